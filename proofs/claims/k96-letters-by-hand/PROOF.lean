import PyProof.Rows.All
import Wide.All
import OpenK.AllK
import Wide.FinOn
import HandS.ForMost
import KE.KDictKeyed
import HandS.Dict
import HandS.Lambda
import HandS.TupAny
import HandS.TupLe
import HandS.Wide
import HandS.Defaults
import KE.KTupSum
import HandS.IsInst
import KE.DataMinMax
import HandS.Style
import HandS.Zip
import KE.GoesMore
import KE.GoesEnum
import HandS.Head0
import HandS.Head1
import HandS.Head2
import HandS.HeadEnd
import HandS.HeadHook1
import HandS.HeadHook2
import HandS.WordsDict
import HandS.TryOnly
import HandS.TupMul
import KE.SortData
import PyProof.Transfer
import HandS.SetFor
import HandS.Strs
import HandS.More
import HandS.Iter
import HandS.DictComp
import HandS.Conv
import HandS.ExcOwn
import HandS.WordsExc
import HandS.ExcIs
import HandS.ExcValue
import HandS.Walk
import HandS.HeadHook4
import HandS.EndTab
import HandS.HeadWalk
import HandS.SetKeys
import HandS.WideBits
import KE.KStateDown
import Lean
import HandS.Base
import HandS.Call
import HandS.Ends
import HandS.Words
import PySem.Challenge.RW_momentyard_k96_letters_by_hand
set_option Elab.async false
set_option linter.all false
set_option maxRecDepth 100000
set_option maxHeartbeats 4000000
/-! dicts whose keys are None and ints, or tuples of such -/
namespace Pu
open PySem PySem.Spec PyProof.Rows L2
abbrev OI := Option Int
def oiV : OI → V
  | none => .non
  | some i => .int i
def oiL : OI → Leaf
  | none => .none
  | some i => .num i
def oiIs : OI → Value → Bool
  | none, .none => true
  | some i, .int j _ => decide (j = i)
  | _, _ => false
def oiHash : OI → Int
  | none => reduceHash 0xFCA86420
  | some i => hashInt i
theorem oiL_inj : ∀ {a b : OI}, oiL a = oiL b → a = b
  | none, none, _ => rfl
  | some _, some _, e => by injection e with e; rw [e]
  | none, some _, e => nomatch e
  | some _, none, e => nomatch e
theorem oiIs_leaf : ∀ {k : OI} {v : Value}, oiIs k v = true → Leaf.isOf (oiL k) v = true
  | none, v, e => by cases v <;> first | rfl | exact absurd e Bool.false_ne_true
  | some i, v, e => by cases v <;> first | exact e | exact absurd e Bool.false_ne_true
theorem oiHash_eq (w : World) : ∀ k : OI, oiHash k = (oiL k).key.hash w
  | none => rfl
  | some i => rfl
def optKind (prog : Program) (w : World) : PySem.KeyKind prog w OI where
  is := oiIs
  hash := oiHash
  inj := fun v a b ha hb => oiL_inj ((leafKind prog w).inj v _ _ (oiIs_leaf ha) (oiIs_leaf hb))
  byValue := fun _ _ h => Leaf.byValue (oiIs_leaf h)
  pyHash := fun {_ _ _ k _ _} hv h => pyHash_leaf (oiIs_leaf hv) (by rw [← oiHash_eq]; exact h)
  eqBool := fun {_ _ _ a b _ _ _} hu hv h => (leafKind prog w).eqBool (oiIs_leaf hu) (oiIs_leaf hv) (by
    have e : decide (oiL a = oiL b) = decide (a = b) := by
      by_cases q : a = b
      · rw [decide_eq_true q, decide_eq_true (congrArg oiL q)]
      · rw [decide_eq_false q, decide_eq_false fun r => q (oiL_inj r)]
    rw [e]
    exact h)
  «strs» := fun k x t v h => by cases k <;> exact absurd h Bool.false_ne_true
theorem oiV_is {k : OI} {u : Value} (r : RelV (oiV k) u) : oiIs k u = true := by
  cases k with
  | none => cases r; rfl
  | some i =>
    obtain ⟨t, rfl⟩ := r
    exact decide_eq_true rfl
theorem oiV_inj {a b : OI} (e : oiV a = oiV b) : a = b := by
  cases a <;> cases b <;> first | rfl | cases e
  rfl
theorem oiV_of {k : OI} {u : Value} (h : oiIs k u = true) : RelV (oiV k) u := by
  cases k with
  | none => cases u <;> first | rfl | exact absurd h Bool.false_ne_true
  | some i =>
    cases u with
    | int j t => exact ⟨t, by rw [of_decide_eq_true (show decide (j = i) = true from h)]⟩
    | _ => exact absurd h Bool.false_ne_true
abbrev otKind (prog : Program) (w : World) : HeapKind prog w (List OI) := tupleKind (optKind prog w)
def otHash (ks : List OI) : Int := reduceHash (Builtin.Tuple.tupleHashOf (ks.map oiHash))
theorem oi_items {P : Program} {w : World} : ∀ {ks : List OI} {us : List Value}, Vals (ks.map oiV) us → ItemsAre (optKind P w) ks us
  | [], _, .nil => .nil
  | _ :: _, _, .cons r t => .cons (oiV_is r) (oi_items t)
/-- at a: a dict, its keys None and ints | tuples of such, that lie where it is told -/
def isD1 (h : Heap) (a : Addr) (es : Array DictEntry) : Prop := ∃ o ep, h.get? a = some o ∧ o.ExactDict ∧ o.data = .dict es ep
def DLo (a : Addr) (kvs : List (OI × V)) : HO := .ext fun h => kvs.length ≤ sizeLine ∧ (a == sysModules) = false ∧ (kvs.map (·.1)).Nodup ∧ ∃ es, isD1 h a es ∧ Paired (fun (p : OI × V) (e : DictEntry) => e.hash = oiHash p.1 ∧ oiIs p.1 e.key = true ∧ RelV p.2 e.val) kvs es.toList
def DTo (a : Addr) (xs : List (List OI × Addr × V)) : HO := .ext fun h => xs.length ≤ sizeLine ∧ (a == sysModules) = false ∧ (xs.map (·.1)).Nodup ∧ ∃ es, isD1 h a es ∧ Paired (fun (p : List OI × Addr × V) (e : DictEntry) => e.hash = otHash p.1 ∧ e.key = .ref p.2.1 ∧ RelV p.2.2 e.val) xs es.toList
section
variable {P : Program} {w : World} {H : Hp} {h : Heap} {a : Addr}
theorem isD1.mk {h1 h2 : Heap} {es : Array DictEntry} (x : isD1 h1 a es) (k : ∀ o, h1.get? a = some o → h2.get? a = some o) : isD1 h2 a es := let ⟨o, ep, e, r⟩ := x; ⟨o, ep, k o e, r⟩
theorem dl_ok {kvs : List (OI × V)} {es : Array DictEntry} (z : kvs.length ≤ sizeLine) (hd : (a == sysModules) = false) (hn : (kvs.map (·.1)).Nodup) (x : isD1 h a es) (r : Paired (fun (p : OI × V) (e : DictEntry) => e.hash = oiHash p.1 ∧ oiIs p.1 e.key = true ∧ RelV p.2 e.val) kvs es.toList) : ObjOk P w H h a (DLo a kvs) := by
  have y := x
  obtain ⟨o, ep, e, _⟩ := y
  exact ⟨⟨z, hd, hn, es, x, r⟩, ⟨o, e⟩, fun h1 h2 ⟨z, hd, hn, es, x, r⟩ k => ⟨z, hd, hn, es, x.mk k, r⟩⟩
theorem dt_ok {xs : List (List OI × Addr × V)} {es : Array DictEntry} (z : xs.length ≤ sizeLine) (hd : (a == sysModules) = false) (hn : (xs.map (·.1)).Nodup) (x : isD1 h a es) (r : Paired (fun (p : List OI × Addr × V) (e : DictEntry) => e.hash = otHash p.1 ∧ e.key = .ref p.2.1 ∧ RelV p.2.2 e.val) xs es.toList) : ObjOk P w H h a (DTo a xs) := by
  have y := x
  obtain ⟨o, ep, e, _⟩ := y
  exact ⟨⟨z, hd, hn, es, x, r⟩, ⟨o, e⟩, fun h1 h2 ⟨z, hd, hn, es, x, r⟩ k => ⟨z, hd, hn, es, x.mk k, r⟩⟩
/-- as the library has it -/
theorem dl_lib : ∀ {kvs : List (OI × V)} {es : List DictEntry}, Paired (fun (p : OI × V) (e : DictEntry) => e.hash = oiHash p.1 ∧ oiIs p.1 e.key = true ∧ RelV p.2 e.val) kvs es → ∃ vs : List (OI × Value), KV kvs vs ∧ Pairs (optKind P w) es vs ∧ (∀ e ∈ es, ∃ k, oiIs k e.key = true ∧ e.hash = oiHash k)
  | _, _, .nil => ⟨[], .nil, .nil, fun _ h => by cases h⟩
  | p :: _, e :: _, .cons h t => by
    obtain ⟨vs, r1, r2, r3⟩ := dl_lib t
    exact ⟨(p.1, e.val) :: vs, .cons ⟨rfl, h.2.2⟩ r1, .cons h.2.1 rfl r2, fun x hx => by
      rcases List.mem_cons.mp hx with rfl | hx
      · exact ⟨p.1, h.2.1, h.1⟩
      · exact r3 x hx⟩
theorem dl_back : ∀ {kvs : List (OI × V)} {vs : List (OI × Value)} {es : List DictEntry}, KV kvs vs → Pairs (optKind P w) es vs → (∀ e ∈ es, ∃ k, (optKind P w).is k e.key = true ∧ e.hash = (optKind P w).hash k) → Paired (fun (p : OI × V) (e : DictEntry) => e.hash = oiHash p.1 ∧ oiIs p.1 e.key = true ∧ RelV p.2 e.val) kvs es
  | _, _, _, .nil, .nil, _ => .nil
  | p :: _, q :: _, e :: _, .cons h t, .cons h1 h2 h3, hk => .cons (by
      obtain ⟨k, g1, g2⟩ := hk e (List.mem_cons_self ..)
      have : k = q.1 := (optKind P w).inj _ _ _ g1 h1
      subst this
      exact ⟨by rw [h.1]; exact g2, by rw [h.1]; exact h1, by rw [h2]; exact h.2⟩) (dl_back t h3 fun x hx => hk x (List.mem_cons_of_mem _ hx))
theorem dl_of {kvs : List (OI × V)} (ok : HOk P w H h) (e : Rd H a (DLo a kvs)) : kvs.length ≤ sizeLine ∧ (a == sysModules) = false ∧ ∃ vs, KV kvs vs ∧ h.DictOf (optKind P w) a vs := by
  obtain ⟨⟨z, hd, hn, es, ⟨o, ep, x1, x2, x3⟩, r⟩, _⟩ := (show ObjOk P w H h a (DLo a kvs) from rd_of ok e)
  obtain ⟨vs, r1, r2, r3⟩ := dl_lib (P := P) (w := w) r
  refine ⟨z, hd, vs, r1, o, es, ep, x1, x2, x3, fun e he => ?_, r2, by rw [← r1.keys]; exact hn⟩
  obtain ⟨k, g1, g2⟩ := r3 e (by simpa using he)
  exact ⟨k, g1, g2⟩
theorem dl_mk {kvs : List (OI × V)} {vs : List (OI × Value)} (z : kvs.length ≤ sizeLine) (hd : (a == sysModules) = false) (rel : KV kvs vs) (dd : h.DictOf (optKind P w) a vs) : ObjOk P w H h a (DLo a kvs) := by
  obtain ⟨o, es, ep, x1, x2, x3, hk, hp, hn⟩ := dd
  exact dl_ok z hd (by rw [rel.keys]; exact hn) ⟨o, ep, x1, x2, x3⟩ (dl_back rel hp fun e he => hk e (by simpa using he))
abbrev XV : List (List OI × Addr × V) → List (List OI × Addr × Value) → Prop := Paired fun p q => p.1 = q.1 ∧ p.2.1 = q.2.1 ∧ RelV p.2.2 q.2.2
theorem dt_lib : ∀ {xs : List (List OI × Addr × V)} {es : List DictEntry}, Paired (fun (p : List OI × Addr × V) (e : DictEntry) => e.hash = otHash p.1 ∧ e.key = .ref p.2.1 ∧ RelV p.2.2 e.val) xs es → ∃ ys : List (List OI × Addr × Value), XV xs ys ∧ es = ys.map (entryOfKey (otKind P w))
  | _, _, .nil => ⟨[], .nil, rfl⟩
  | p :: _, e :: _, .cons h t => by
    obtain ⟨ys, r1, r2⟩ := dt_lib t
    refine ⟨(p.1, p.2.1, e.val) :: ys, .cons ⟨rfl, rfl, h.2.2⟩ r1, ?_⟩
    rw [List.map_cons, ← r2]
    congr 1
    obtain ⟨e1, e2, e3⟩ := e
    obtain ⟨g1, g2, g3⟩ := h
    cases g1
    cases g2
    rfl
theorem dt_back : ∀ {xs : List (List OI × Addr × V)} {ys : List (List OI × Addr × Value)}, XV xs ys → Paired (fun (p : List OI × Addr × V) (e : DictEntry) => e.hash = otHash p.1 ∧ e.key = .ref p.2.1 ∧ RelV p.2.2 e.val) xs (ys.map (entryOfKey (otKind P w)))
  | _, _, .nil => .nil
  | p :: _, q :: _, .cons h t => .cons ⟨by rw [h.1]; rfl, by rw [h.2.1]; rfl, h.2.2⟩ (dt_back t)
theorem XV.keys : ∀ {xs : List (List OI × Addr × V)} {ys : List (List OI × Addr × Value)}, XV xs ys → xs.map (·.1) = ys.map (·.1)
  | _, _, .nil => rfl
  | _, _, .cons h t => by rw [List.map_cons, List.map_cons, h.1, XV.keys t]
end
section
variable {X : Cx} {pins : List (Addr × Obj)} {σ : L2.St} {H : Hp} {s : Shared} {a : Addr}
/-- the keys lie there -/
def KeysAt (K : PySem.W.Frag) (H : Hp) (xs : List (List OI × Addr × V)) : Prop := ∀ x ∈ xs, SqT K H x.2.1 (x.1.map oiV)
theorem ot_key (I : Inv X pins σ H s) {b : Addr} {k : List OI} (e : SqT X.K H b (k.map oiV)) : (otKind X.prog X.w).is s.heap k b := by
  obtain ⟨its, rv, p, _⟩ := I.tuple e
  obtain ⟨o, h1, h2, n, h3⟩ := p
  exact ⟨o, its.toArray, n, h1, h2, h3, by simpa using oi_items rv⟩
theorem XV.is (I : Inv X pins σ H s) : ∀ {xs : List (List OI × Addr × V)} {ys : List (List OI × Addr × Value)}, XV xs ys → KeysAt X.K H xs → ∀ y ∈ ys, (otKind X.prog X.w).is s.heap y.1 y.2.1
  | _, _, .nil, _, _, hy => by cases hy
  | p :: _, q :: _, .cons h t, hx, y, hy => by
    rcases List.mem_cons.mp hy with rfl | hy
    · have g := ot_key I (hx p (List.mem_cons_self ..))
      rw [h.1, h.2.1] at g
      exact g
    · exact XV.is I t (fun x h => hx x (List.mem_cons_of_mem _ h)) y hy
theorem dt_of {xs : List (List OI × Addr × V)} (I : Inv X pins σ H s) (e : Rd H a (DTo a xs)) (hx : KeysAt X.K H xs) : xs.length ≤ sizeLine ∧ (a == sysModules) = false ∧ ∃ ys, XV xs ys ∧ s.heap.DictOfH (otKind X.prog X.w) a ys := by
  obtain ⟨⟨z, hd, hn, es, ⟨o, ep, x1, x2, x3⟩, r⟩, _⟩ := (show ObjOk X.prog X.w H s.heap a (DTo a xs) from rd_of I.hok e)
  obtain ⟨ys, r1, r2⟩ := dt_lib (P := X.prog) (w := X.w) r
  exact ⟨z, hd, ys, r1, o, es, ep, x1, x2, x3, r2, XV.is I r1 hx, by rw [← r1.keys]; exact hn⟩
theorem dt_mk {P : Program} {w : World} {h : Heap} {H : Hp} {xs : List (List OI × Addr × V)} {ys : List (List OI × Addr × Value)} (z : xs.length ≤ sizeLine) (hd : (a == sysModules) = false) (rel : XV xs ys) (dd : h.DictOfH (otKind P w) a ys) : ObjOk P w H h a (DTo a xs) := by
  obtain ⟨o, es, ep, x1, x2, x3, he, _, hn⟩ := dd
  exact dt_ok z hd (by rw [rel.keys]; exact hn) ⟨o, ep, x1, x2, x3⟩ (by rw [he]; exact dt_back rel)
def putX (xs : List (List OI × Addr × V)) (k : List OI) (b : Addr) (v : V) : List (List OI × Addr × V) :=
  if (xs.any fun x => decide (x.1 = k)) = true then xs.map (fun x => if x.1 = k then (x.1, x.2.1, v) else x) else xs ++ [(k, b, v)]
def valX (xs : List (List OI × Addr × V)) (k : List OI) : Option V := (xs.find? fun x => decide (x.1 = k)).map (·.2.2)
theorem XV.val : ∀ {xs : List (List OI × Addr × V)} {ys : List (List OI × Addr × Value)}, XV xs ys → ∀ k, RelO (valX xs k) ((atKey ys k).map (·.2))
  | _, _, .nil, k => trivial
  | p :: _, q :: _, .cons h t, k => by
    have ih := XV.val t k
    unfold valX atKey at ih ⊢
    rw [List.find?_cons, List.find?_cons, ← h.1]
    by_cases e : p.1 = k
    · rw [decide_eq_true e]
      exact h.2.2
    · rw [decide_eq_false e]
      exact ih
theorem XV.any : ∀ {xs : List (List OI × Addr × V)} {ys : List (List OI × Addr × Value)}, XV xs ys → ∀ k, (xs.any fun x => decide (x.1 = k)) = (atKey ys k).isSome
  | _, _, .nil, k => rfl
  | p :: _, q :: _, .cons h t, k => by
    have ih := XV.any t k
    unfold atKey at ih ⊢
    rw [List.any_cons, List.find?_cons, ← h.1, ih]
    by_cases e : p.1 = k
    · rw [decide_eq_true e]
      rfl
    · rw [decide_eq_false e]
      rfl
theorem XV.repl {k : List OI} {v : V} {u : Value} (rv : RelV v u) : ∀ {xs : List (List OI × Addr × V)} {ys : List (List OI × Addr × Value)}, XV xs ys → XV (xs.map fun x => if x.1 = k then (x.1, x.2.1, v) else x) (ys.map (putAt k u))
  | _, _, .nil => .nil
  | p :: _, q :: _, .cons h t => .cons (by
      unfold putAt
      dsimp only
      by_cases e : p.1 = k
      · rw [if_pos e, if_pos (h.1 ▸ e)]
        exact ⟨h.1, h.2.1, rv⟩
      · rw [if_neg e, if_neg (h.1 ▸ e)]
        exact h) (XV.repl rv t)
theorem XV.put {xs : List (List OI × Addr × V)} {ys : List (List OI × Addr × Value)} (r : XV xs ys) {k : List OI} {b : Addr} {v : V} {u : Value} (rv : RelV v u) : XV (putX xs k b v) (storedH ys k b u) := by
  unfold putX storedH
  rw [r.any k]
  by_cases e : (atKey ys k).isSome = true
  · rw [if_pos e, if_pos e]
    exact r.repl rv
  · rw [if_neg e, if_neg e]
    exact Paired.snoc r ⟨rfl, rfl, rv⟩
theorem putX_len {xs : List (List OI × Addr × V)} {k : List OI} {b : Addr} {v : V} : (putX xs k b v).length ≤ xs.length + 1 := by
  unfold putX
  split
  · rw [List.length_map]; omega
  · simp
/-- what the dict at a holds at y; behind a[y] = v -/
def OGet (K : PySem.W.Frag) (H : Hp) (a : Addr) (y : V) (r : Option V) : Prop :=
  (∃ kvs k, Rd H a (DLo a kvs) ∧ y = oiV k ∧ r = valV kvs k) ∨ ∃ xs k b, Rd H a (DTo a xs) ∧ KeysAt K H xs ∧ y = .ref b ∧ SqT K H b (k.map oiV) ∧ r = valX xs k
def OPut (K : PySem.W.Frag) (H : Hp) (a : Addr) (y v : V) (H' : Hp) : Prop :=
  (∃ kvs k, H a = some (DLo a kvs) ∧ y = oiV k ∧ kvs.length < sizeLine ∧ H' = upd H a (DLo a (putK kvs k v))) ∨
  ∃ xs k b, H a = some (DTo a xs) ∧ KeysAt K H xs ∧ y = .ref b ∧ SqT K H b (k.map oiV) ∧ xs.length < sizeLine ∧ H' = upd H a (DTo a (putX xs k b v))
def IsO (K : PySem.W.Frag) (H : Hp) (a : Addr) : Prop := (∃ kvs, Rd H a (DLo a kvs)) ∨ ∃ xs, Rd H a (DTo a xs) ∧ KeysAt K H xs
variable {y v d : V} {u r : Value} {o : Option V} {A : Around} {E : Value → Shared → Prop}
theorem OGet.isO (g : OGet X.K H a y o) : IsO X.K H a := by
  rcases g with ⟨kvs, k, e, _, _⟩ | ⟨xs, k, b, e, hx, _, _, _⟩
  · exact .inl ⟨kvs, e⟩
  · exact .inr ⟨xs, e, hx⟩
theorem isO_at (I : Inv X pins σ H s) (d : IsO X.K H a) :
    s.TypeIs (.ref a) "dict" ∧ (∀ b, Value.ref a = .ref b → ∃ ob, s.heap.get? b = some ob ∧ ob.dict = none) ∧ (a == sysModules) = false := by
  rcases d with ⟨kvs, e⟩ | ⟨xs, e, hx⟩
  · obtain ⟨_, hd, vs, _, dd⟩ := dl_of I.hok e
    refine ⟨dd.typeIs, fun b q => ?_, hd⟩
    cases q
    obtain ⟨ob, _, _, h1, h2, _⟩ := dd
    exact ⟨ob, h1, h2.2.1⟩
  · obtain ⟨_, hd, xs, _, dd⟩ := dt_of I e hx
    refine ⟨dd.typeIs, fun b q => ?_, hd⟩
    cases q
    obtain ⟨ob, _, _, h1, h2, _⟩ := dd
    exact ⟨ob, h1, h2.2.1⟩
theorem o_getItem {Q : Value → Shared → Prop} (hu : A.units + 1 < cLine) (I : Inv X pins σ H s) (g : OGet X.K H a y (some v)) (ry : RelV y u) (h : ∀ w' s', Inv X pins σ H s' → RelV v w' → Q w' s') :
    wpAny (model X.prog X.w) A (getItem (.ref a) u) Q E s := by
  rcases g with ⟨kvs, k, e, ey, l⟩ | ⟨xs, k, b, e, hx, ey, eb, l⟩
  · subst ey
    obtain ⟨z, hd, vs, rel, dd⟩ := dl_of I.hok e
    obtain ⟨w', hw, rw'⟩ := RelO.some_of (v := v) (o := valueAt vs k) (by rw [l]; exact rel.val k)
    exact wpAny_getItem_of (knd := optKind X.prog X.w) (oiV_is ry) dd.mapOf hw (h w' _ (I.tok _) rw')
  · subst ey
    cases (show u = Value.ref b from ry)
    obtain ⟨z, hd, ys, rel, dd⟩ := dt_of I e hx
    obtain ⟨w', hw, rw'⟩ := RelO.some_of (v := v) (o := (atKey ys k).map (·.2)) (by rw [l]; exact rel.val k)
    obtain ⟨p, hp, hp2⟩ := Option.map_eq_some_iff.mp hw
    refine wpAny_getItem_heap (tupleKind_room_in1 hu) (ot_key I eb) dd hp ?_
    rw [hp2]
    exact h w' _ (I.tok _) rw'
theorem o_in {Q : Value → Shared → Prop} (hu : A.units + 1 < cLine) (I : Inv X pins σ H s) (g : OGet X.K H a y o) (ry : RelV y u) (h : ∀ s', Inv X pins σ H s' → Q (.bool o.isSome) s') :
    wpAny (model X.prog X.w) A (compareOp .In u (.ref a)) Q E s := by
  rcases g with ⟨kvs, k, e, ey, l⟩ | ⟨xs, k, b, e, hx, ey, eb, l⟩
  · subst ey
    obtain ⟨z, hd, vs, rel, dd⟩ := dl_of I.hok e
    refine wpAny_in_of (knd := optKind X.prog X.w) (oiV_is ry) hd dd.mapOf ?_
    rw [← (rel.val k).isSome_eq, ← l]
    exact h _ (I.tok _)
  · subst ey
    cases (show u = Value.ref b from ry)
    obtain ⟨z, hd, ys, rel, dd⟩ := dt_of I e hx
    refine wpAny_in_heap (tupleKind_room_in1 hu) (ot_key I eb) hd dd ?_
    have q := (rel.val k).isSome_eq
    rw [Option.isSome_map] at q
    rw [← q, ← l]
    exact h _ (I.tok _)
theorem o_notIn {Q : Value → Shared → Prop} (hu : A.units + 1 < cLine) (I : Inv X pins σ H s) (g : OGet X.K H a y o) (ry : RelV y u) (h : ∀ s', Inv X pins σ H s' → Q (.bool (!o.isSome)) s') :
    wpAny (model X.prog X.w) A (compareOp .NotIn u (.ref a)) Q E s := by
  rcases g with ⟨kvs, k, e, ey, l⟩ | ⟨xs, k, b, e, hx, ey, eb, l⟩
  · subst ey
    obtain ⟨z, hd, vs, rel, dd⟩ := dl_of I.hok e
    refine wpAny_notIn_of (knd := optKind X.prog X.w) (oiV_is ry) hd dd.mapOf ?_
    rw [← (rel.val k).isSome_eq, ← l]
    exact h _ (I.tok _)
  · subst ey
    cases (show u = Value.ref b from ry)
    obtain ⟨z, hd, ys, rel, dd⟩ := dt_of I e hx
    refine wpAny_notIn_heap (tupleKind_room_in1 hu) (ot_key I eb) hd dd ?_
    have q := (rel.val k).isSome_eq
    rw [Option.isSome_map] at q
    rw [← q, ← l]
    exact h _ (I.tok _)
theorem o_get2 {Q : Value → Shared → Prop} (hu : A.units + 1 < cLine) (I : Inv X pins σ H s) (g : OGet X.K H a y o) (ry : RelV y u) (rd : RelV d r) (h : ∀ w' s', Inv X pins σ H s' → RelV (o.getD d) w' → Q w' s') :
    wpAny (model X.prog X.w) A (call (.builtin "dict.get") [.ref a, u, r]) Q E s := by
  rcases g with ⟨kvs, k, e, ey, l⟩ | ⟨xs, k, b, e, hx, ey, eb, l⟩
  · subst ey
    obtain ⟨z, hd, vs, rel, dd⟩ := dl_of I.hok e
    refine call_meetsIn PySem.F.slot_dict_get dd.typeIs PySem.F.entry_dict_get (PySem.F.args_dict_get_3 _ _ _) (meets_dict_get_default (optKind X.prog X.w) a (oiV_is ry) hd r) ⟨_, dd.mapOf, h _ _ (I.tok _) ?_⟩
    rw [l]
    exact (rel.val k).getD rd
  · subst ey
    cases (show u = Value.ref b from ry)
    obtain ⟨z, hd, ys, rel, dd⟩ := dt_of I e hx
    refine call_meetsIn PySem.F.slot_dict_get dd.typeIs PySem.F.entry_dict_get (PySem.F.args_dict_get_3 _ _ _) (meetsH_dict_get_default (otKind X.prog X.w) a b hd r) ⟨tupleKind_room_in1 hu, k, ys, ot_key I eb, dd, h _ _ (I.tok _) ?_⟩
    rw [l]
    exact (rel.val k).getD rd
theorem o_setItem {H' : Hp} {Q : Unit → Shared → Prop} (hu : A.units + 1 < cLine) (I : Inv X pins σ H s) (g : OPut X.K H a y v H') (ry : RelV y u) (rv : RelV v r) (h : ∀ s', Inv X pins σ H' s' → Q () s') :
    wpAny (model X.prog X.w) A (setItem (.ref a) u r) Q E s := by
  rcases g with ⟨kvs, k, e, ey, l, eH⟩ | ⟨xs, k, b, e, hx, ey, eb, l, eH⟩
  · subst ey eH
    obtain ⟨z, hd, vs, rel, dd⟩ := dl_of I.hok (.inl e)
    have hz : vs.length ≤ sizeLine := by rw [← rel.length]; exact z
    have hl : (putK kvs k v).length ≤ sizeLine := by have := length_putK kvs k v; omega
    refine wpAny_setItem_pairs (hsz := hz) (knd := optKind X.prog X.w) (oiV_is ry) dd fun h' dd' hs => h _ ?_
    have he : ∃ q, h'.get? a = some q := let ⟨q, _, _, hq, _⟩ := dd'; ⟨q, hq⟩
    exact d_write I (by rw [e]; exact True.intro) hs he (dl_mk hl hd (rel.put k rv) dd')
  · subst ey eH
    cases (show u = Value.ref b from ry)
    obtain ⟨z, hd, ys, rel, dd⟩ := dt_of I (.inl e) hx
    have hz : ys.length ≤ sizeLine := by rw [← Paired.length rel]; exact z
    have hl : (putX xs k b v).length ≤ sizeLine := by have := putX_len (xs := xs) (k := k) (b := b) (v := v); omega
    refine wpAny_setItem_heap (hsz := hz) (tupleKind_room_in1 hu) (ot_key I eb) dd fun h' dd' hs => h _ ?_
    have he : ∃ q, h'.get? a = some q := let ⟨q, _, _, hq, _⟩ := dd'; ⟨q, hq⟩
    exact d_write I (by rw [e]; exact True.intro) hs he (dt_mk hl hd (rel.put rv) dd')
/-- the empty dict -/
theorem ok_of_dk0 {P : Program} {w : World} {h : Heap} (x : ObjOk P w H h a (.dK [])) : ObjOk P w H h a (DLo a []) ∧ ObjOk P w H h a (DTo a []) := by
  obtain ⟨z, hd, vs, rel, o, es, ep, x1, x2, x3, hk, hp, hn⟩ := x
  cases rel
  have e0 : es = #[] := by
    have := hp.length
    simp only [List.length_nil] at this
    exact Array.eq_empty_of_size_eq_zero (by simpa using this)
  subst e0
  exact ⟨dl_ok (Nat.zero_le _) hd .nil ⟨o, ep, x1, x2, x3⟩ .nil, dt_ok (Nat.zero_le _) hd .nil ⟨o, ep, x1, x2, x3⟩ .nil⟩
/-! dict(d) -/
theorem call_dictH {prog : Program} {w : World} {K : Type} [DecidableEq K] {knd : HeapKind prog w K} {A : Around} {E : Value → Shared → Prop} {s : Shared} {o : Addr} {more : List (K × Addr × Value)} {Q : Value → Shared → Prop} (hu : knd.room A.in1.in1) (hoS : (o == sysModules) = false) (ho : s.heap.DictOfH knd o more) (hty : ∀ x ∈ more, s.TypeIs (.ref x.2.1) "tuple") (hap : (more.map fun x => knd.hash x.1).Nodup) (hsz : more.length ≤ sizeLine)
    (hst : ∀ h' : Heap, (∀ b q, s.heap.get? b = some q → h'.get? b = some q) → ∀ x ∈ more, knd.is h' x.1 x.2.1)
    (h : ∀ h', h'.DictOfH knd s.heap.objs.size more → (∀ b q, s.heap.get? b = some q → h'.get? b = some q) → Q (.ref s.heap.objs.size) { s with heap := h' }) :
    wpAny (model prog w) A (call (.type "dict") [.ref o]) Q E s := by
  refine callType_codes (Q₁ := fun obj s₁ => obj = .ref s.heap.objs.size ∧ s₁ = { s with heap := s.heap.push { cls := .type "dict", data := .dict #[] } }) PySem.F.kt_called_dict (PySem.F.kt_typeCall_dict_1 _) PySem.F.entry_dict_init (kt_code_dict_new _ ⟨rfl, rfl⟩) ?_
  rintro obj s₁ ⟨rfl, rfl⟩
  have hnew : (s.heap.push { cls := .type "dict", data := .dict #[] }).DictOfH knd s.heap.objs.size [] := Heap.DictOfH.new s.heap
  have up : ∀ b q, s.heap.get? b = some q → (s.heap.push { cls := .type "dict", data := .dict #[] }).get? b = some q := fun b q e => Heap.get?_push_of_some _ e
  have ho' : (s.heap.push { cls := .type "dict", data := .dict #[] }).DictOfH knd o more := by
    obtain ⟨ob, es, ep, g1, g2, g3, g4, g5, g6⟩ := ho
    exact ⟨ob, es, ep, up _ _ g1, g2, g3, g4, hst _ up, g6⟩
  have hdo : s.heap.objs.size ≠ o := by
    obtain ⟨_, _, _, hg, _⟩ := ho
    exact fun e => absurd (Heap.lt_size hg) (by rw [e]; exact Nat.lt_irrefl _)
  have hnd : (more.map (·.1)).Nodup := ho.nodup
  refine ⟨hnew.typeIs, PySem.F.args_dict_init_2 _ _, ?_⟩
  unfold Builtin.«dict.__init__»
  refine wpAny_bind ?_
  unfold Builtin.Dict.selfAndRest
  refine wpAny_bind (wpAny_notOrdered_dict hnew.typeIs ?_)
  show wpAny _ _ (pure (s.heap.objs.size, [Value.ref o])) _ _ _
  refine wpAny_pure ?_
  show wpAny _ _ (Builtin.Dict.updateFrom "dict.__init__" s.heap.objs.size (.ref o) [] .none) _ _ _
  unfold Builtin.Dict.updateFrom
  refine wpAny_bind (wpAny_typeOf ho'.typeIs ?_)
  rw [if_neg (by decide)]
  refine wpAny_bind ?_
  unfold Builtin.Dict.merge
  refine wpAny_bind ?_
  unfold Builtin.Dict.readDirectly
  refine wpAny_bind (wpAny_isInstance ho'.typeIs isSubtype_dict_dict ?_)
  simp only [Bool.not_true, Bool.false_eq_true, if_false]
  refine wpAny_bind (wpAny_specialOf ho'.typeIs PySem.F.slot_dict_iter.lookup (wpAny_pure ?_))
  simp only [beq_self_eq_true, if_true]
  refine wpAny_bind (wpAny_pure ?_)
  refine wpAny_mergeDict_heap (hsz := by simpa using hsz) hu hdo hoS hnew ho' (.inr ⟨fun x hx => ?_, hap⟩) fun h' hd' _ hs' => ?_
  · obtain ⟨ob, e, hc⟩ := hty x hx
    exact ⟨ob, up _ _ e, hc⟩
  · show wpAny _ _ (Builtin.Dict.addKeywords s.heap.objs.size [] >>= _) _ _ _
    rw [storedAllH_nil_of_nodup more hnd] at hd'
    exact wpAny_bind (wpAny_pure (wpAny_pure ⟨rfl, h h' hd' fun b q e => hs'.extBut b q (Nat.ne_of_lt (Heap.lt_size e)) (up _ _ e)⟩))
theorem o_copyOf {Q : Value → Shared → Prop} (hu : A.units + 2 < cLine) (I : Inv X pins σ H s) {xs : List (List OI × Addr × V)} (e : Rd H a (DTo a xs)) (hx : KeysAt X.K H xs) (hap : (xs.map fun x => otHash x.1).Nodup) (h : ∀ p s', H p = none → Inv X pins σ (upd H p (DTo p xs)) s' → Q (.ref p) s') : wpAny (model X.prog X.w) A (call (.type "dict") [.ref a]) Q E s := by
  obtain ⟨z, hd, ys, rel, dd⟩ := dt_of I e hx
  have ek : (ys.map fun y => (otKind X.prog X.w).hash y.1) = xs.map fun x => otHash x.1 := by
    have := rel.keys
    have h2 := congrArg (List.map otHash) this
    rw [List.map_map, List.map_map] at h2
    exact h2.symm
  refine call_dictH (tupleKind_room_in1 (A := A.in1) hu) hd dd (keyed_apart tupleKind_stays dd) (by rw [ek]; exact hap) (by rw [← Paired.length rel]; exact z) (fun h' hk y hy => ?_) fun h' dd' hk => ?_
  · obtain ⟨_, _, _, _, _, _, _, his, _⟩ := dd
    exact tupleKind_stays.stays (fun b o _ _ e _ => hk b o e) (his y hy)
  · exact h _ _ (I.hok.fresh (Nat.le_refl _)) (I.laid (a := s.heap.objs.size) (o := DTo s.heap.objs.size xs) (t' := s.toks) hk (Nat.le_refl _) (dt_mk z (beq_eq_false_iff_ne.mpr (Ne.symm (Nat.ne_of_lt I.big))) rel dd'))
end
/-! ### the rules of expressions -/
def tOGet (K : PySem.W.Frag) (td ty : TE) : TE := fun σ H Q => td σ H fun x H1 => ty σ H1 fun y H2 => ∃ a v, x = .ref a ∧ OGet K H2 a y (some v) ∧ Q v H2
def tOIn (K : PySem.W.Frag) (ty td : TE) : TE := fun σ H Q => ty σ H fun y H1 => td σ H1 fun x H2 => ∃ a o, x = .ref a ∧ OGet K H2 a y o ∧ Q (.bl o.isSome) H2
def tONotIn (K : PySem.W.Frag) (ty td : TE) : TE := fun σ H Q => ty σ H fun y H1 => td σ H1 fun x H2 => ∃ a o, x = .ref a ∧ OGet K H2 a y o ∧ Q (.bl (!o.isSome)) H2
def sOPutP (K : PySem.W.Frag) (td ty tv : TE) : TS := fun D σ H => tv σ H fun v H1 => td σ H1 fun x H2 => ty σ H2 fun y H3 => ∃ a H4, x = .ref a ∧ OPut K H3 a y v H4 ∧ D.nx σ H4
def tOGet2 (K : PySem.W.Frag) (td ty tx : TE) : TE := fun σ H Q => td σ H fun x H1 => ∃ a, x = .ref a ∧ IsO K H1 a ∧ ty σ H1 fun y H2 => tx σ H2 fun z H3 => ∃ o, OGet K H3 a y o ∧ Q (o.getD z) H3
section
variable {X : Cx} {o i e f value : Expr} {pos pos' tpos apos cpos : Pos} {td ty tv tx : TE}
theorem pe_oget (hu : X.A.units + 1 < cLine) (ho : PE X o td) (hi : PE X i ty) (hs : NoSl i) : PE X (.Subscript o i pos) (tOGet X.K td ty) := by
  refine ⟨fun pins s σ H Q I h => ?_⟩
  refine subD_of PySem.F.slot_dict_getitem.lookup hs (thn (ho.run pins s σ H _ I h) fun u s1 ⟨x, H1, I1, rx, q1⟩ => thn (hi.run pins s1 σ H1 _ I1 q1) fun iv s2 ⟨y, H2, I2, ry, a, v, ex, g, q2⟩ => ?_)
  subst ex
  obtain rfl : u = Value.ref a := rx
  exact ⟨(isO_at I2 g.isO).1, o_getItem hu I2 g ry fun w' s3 I3 rw' => ⟨v, H2, I3, rw', q2⟩⟩
theorem pc_oin (hu : X.A.units + 1 < cLine) (hi : PE X i ty) (ho : PE X o td) : PC X .In i o (tOIn X.K ty td) := by
  refine ⟨fun pins s σ H Q I h => ?_⟩
  refine thn (hi.run pins s σ H _ I h) fun iv s1 ⟨y, H1, I1, ry, q1⟩ => thn (ho.run pins s1 σ H1 _ I1 q1) fun u s2 ⟨x, H2, I2, rx, a, ov, ex, g, q2⟩ => ?_
  subst ex
  obtain rfl : u = Value.ref a := rx
  exact o_in hu I2 g ry fun s3 I3 => ⟨.bl ov.isSome, H2, I3, rfl, q2⟩
theorem pc_onotin (hu : X.A.units + 1 < cLine) (hi : PE X i ty) (ho : PE X o td) : PC X .NotIn i o (tONotIn X.K ty td) := by
  refine ⟨fun pins s σ H Q I h => ?_⟩
  refine thn (hi.run pins s σ H _ I h) fun iv s1 ⟨y, H1, I1, ry, q1⟩ => thn (ho.run pins s1 σ H1 _ I1 q1) fun u s2 ⟨x, H2, I2, rx, a, ov, ex, g, q2⟩ => ?_
  subst ex
  obtain rfl : u = Value.ref a := rx
  exact o_notIn hu I2 g ry fun s3 I3 => ⟨.bl (!ov.isSome), H2, I3, rfl, q2⟩
theorem ps_oput (hu : X.A.units + 1 < cLine) (ho : PE X o td) (hi : PE X i ty) (hv : PE X value tv) (hs : swapsWith value (some (.Subscript o i pos')) pos.line X.env = pure false) :
    PS X (.Assign [.Subscript o i pos'] value pos) (sOPutP X.K td ty tv) := by
  refine ⟨fun pins s σ H D I h => ?_⟩
  refine wpAny_Assign_Subscript (thn (hv.run pins s σ H _ I h) fun r s1 ⟨v, H1, I1, rv, q1⟩ => thn (ho.run pins s1 σ H1 _ I1 q1) fun u s2 ⟨x, H2, I2, rx, q2⟩ => thn (hi.run pins s2 σ H2 _ I2 q2) fun iv s3 ⟨y, H3, I3, ry, a, H4, ex, g, q3⟩ => ?_) hs
  subst ex
  obtain rfl : u = Value.ref a := rx
  exact o_setItem hu I3 g ry rv fun s4 I4 => ⟨σ, H4, I4, q3⟩
theorem pe_oget2 (hu : X.A.units + 1 < cLine) (ho : PE X o td) (he : PE X e ty) (hf : PE X f tx) (m : M2 X o "get" apos e f cpos) : PE X (.Call (.Attribute o "get" apos) [e, f] [] cpos) (tOGet2 X.K td ty tx) := by
  refine ⟨fun pins s σ H Q I h => ?_⟩
  refine wpAny_Call_method m.base m.few m.line PySem.F.plainAttrs_dict PySem.F.slot_dict_get PySem.F.type_dict_get (thn (ho.run pins s σ H _ I h) fun u s1 ⟨x, H1, I1, rx, a, ex, d, q1⟩ => ?_)
  subst ex
  obtain rfl : u = Value.ref a := rx
  obtain ⟨t1, t2, _⟩ := isO_at I1 d
  refine ⟨t1, t2, ?_⟩
  rw [m.trees]
  refine Calls.callWith_builtin rfl (Calls.evalArgs_plain (Calls.spliced_cons (thn (he.run pins s1 σ H1 _ I1 q1) fun iv s2 ⟨y, H2, I2, ry, q2⟩ =>
    Calls.spliced_cons (thn (hf.run pins s2 σ H2 _ I2 q2) fun fv s3 ⟨z, H3, I3, rz, ov, g, q3⟩ => Calls.spliced_nil ?_))))
  exact o_get2 hu I3 g ry rz fun w' s4 I4 rw' => ⟨_, H3, I4, rw', q3⟩
end
end Pu
/-! The data layer: what a piece of Python does, told over plain data; heaps and addresses stay below. -/
namespace Pu
open PySem PySem.Spec PyProof.Rows L2

abbrev D := PyData
abbrev St := L2.St

/-! ### the weakest readings -/
@[irreducible] def wpE (X : Cx) (e : Expr) : TE := fun σ H Q => ∀ (pins : List (Addr × Obj)) (s : Shared), Inv X pins σ H s → wpAny (model X.prog X.w) X.A (eval e X.env) (EP X pins σ Q) X.xe s
theorem pe_w {X : Cx} {e : Expr} : PE X e (wpE X e) := ⟨fun pins s _ _ _ I h => by unfold wpE at h; exact h pins s I⟩
theorem wpE_of {X : Cx} {e : Expr} {t : TE} (h : PE X e t) {σ : St} {H : Hp} {Q : VK} (q : t σ H Q) : wpE X e σ H Q := by
  unfold wpE
  exact fun pins s I => h.run pins s σ H Q I q
@[irreducible] def wpT (X : Cx) (e : Expr) : TT := fun σ H Q => ∀ (pins : List (Addr × Obj)) (s : Shared), Inv X pins σ H s → wpAny (model X.prog X.w) X.A (isTrue e X.env (eval e X.env)) (TP X pins σ Q) X.xe s
theorem pt_w {X : Cx} {e : Expr} : PT X e (wpT X e) := ⟨fun pins s _ _ _ I h => by unfold wpT at h; exact h pins s I⟩
theorem wpT_of {X : Cx} {e : Expr} {t : TT} (h : PT X e t) {σ : St} {H : Hp} {Q : Bool → Hp → Prop} (q : t σ H Q) : wpT X e σ H Q := by
  unfold wpT
  exact fun pins s I => h.run pins s σ H Q I q
@[irreducible] def wpW (X : Cx) (e : Expr) : TT := fun σ H Q => ∀ (wh : Sem Value) (pins : List (Addr × Obj)) (s : Shared), Inv X pins σ H s → wpAny (model X.prog X.w) X.A (isTrue e X.env wh) (TP X pins σ Q) X.xe s
theorem pw_w {X : Cx} {e : Expr} : PW X e (wpW X e) := ⟨fun wh pins s _ _ _ I h => by unfold wpW at h; exact h wh pins s I⟩
theorem wpW_of {X : Cx} {e : Expr} {t : TT} (h : PW X e t) {σ : St} {H : Hp} {Q : Bool → Hp → Prop} (q : t σ H Q) : wpW X e σ H Q := by
  unfold wpW
  exact fun wh pins s I => h.run wh pins s σ H Q I q
@[irreducible] def wpA (X : Cx) (es : List Expr) : TA := fun σ H Q => ∀ (pos : Pos) (pins : List (Addr × Obj)) (s : Shared), Inv X pins σ H s → wpAny (model X.prog X.w) X.A (spliced (backTo pos (starEach es X.env))) (AP X pins σ Q) X.xe s
theorem pa_w {X : Cx} {es : List Expr} : PA X es (wpA X es) := ⟨fun pos pins s _ _ _ I h => by unfold wpA at h; exact h pos pins s I⟩
theorem wpA_of {X : Cx} {es : List Expr} {t : TA} (h : PA X es t) {σ : St} {H : Hp} {Q : List V → Hp → Prop} (q : t σ H Q) : wpA X es σ H Q := by
  unfold wpA
  exact fun pos pins s I => h.run pos pins s σ H Q I q
@[irreducible] def wpS (X : Cx) (st : Stmt) : TS := fun D σ H => ∀ (pins : List (Addr × Obj)) (s : Shared), Inv X pins σ H s → wpAny (model X.prog X.w) X.A (exec st X.env) (SP X pins D) X.xe s
theorem ps_w {X : Cx} {st : Stmt} : PS X st (wpS X st) := ⟨fun pins s _ _ _ I h => by unfold wpS at h; exact h pins s I⟩
theorem wpS_of {X : Cx} {st : Stmt} {t : TS} (h : PS X st t) {σ : St} {H : Hp} {D : Ends} (q : t D σ H) : wpS X st D σ H := by
  unfold wpS
  exact fun pins s I => h.run pins s σ H D I q
@[irreducible] def wpSs (X : Cx) (st : List Stmt) : TS := fun D σ H => ∀ (pins : List (Addr × Obj)) (s : Shared), Inv X pins σ H s → wpAny (model X.prog X.w) X.A (execs st X.env) (SP X pins D) X.xe s
theorem pss_w {X : Cx} {st : List Stmt} : PSs X st (wpSs X st) := ⟨fun pins s _ _ _ I h => by unfold wpSs at h; exact h pins s I⟩
theorem wpSs_of {X : Cx} {st : List Stmt} {t : TS} (h : PSs X st t) {σ : St} {H : Hp} {D : Ends} (q : t D σ H) : wpSs X st D σ H := by
  unfold wpSs
  exact fun pins s I => h.run pins s σ H D I q
@[irreducible] def wpG (X : Cx) (tg : Expr) : TG := fun v σ H Q => ∀ (pins : List (Addr × Obj)) (s : Shared) (u : Value), Inv X pins σ H s → RelV v u → wpAny (model X.prog X.w) X.A (assign tg X.env u) (fun _ s' => ∃ σ' H', Inv X pins σ' H' s' ∧ Q σ' H') X.xe s
theorem pg_w {X : Cx} {tg : Expr} : PG X tg (wpG X tg) := ⟨fun pins s _ _ _ u _ I r h => by unfold wpG at h; exact h pins s u I r⟩
theorem wpG_of {X : Cx} {tg : Expr} {t : TG} (h : PG X tg t) {v : V} {σ : St} {H : Hp} {Q : St → Hp → Prop} (q : t v σ H Q) : wpG X tg v σ H Q := by
  unfold wpG
  exact fun pins s u I r => h.run pins s σ H v u Q I r q
@[irreducible] def wpGs (X : Cx) (ts : List Expr) : TGs := fun vs σ H Q => ∀ (pins : List (Addr × Obj)) (s : Shared) (us : List Value), Inv X pins σ H s → Vals vs us → wpAny (model X.prog X.w) X.A (assignInOrder ((assignEach ts X.env).map (·.2)) us) (fun _ s' => ∃ σ' H', Inv X pins σ' H' s' ∧ Q σ' H') X.xe s
theorem pgs_w {X : Cx} {ts : List Expr} : PGs X ts (wpGs X ts) := ⟨fun pins s _ _ _ us _ I r h => by unfold wpGs at h; exact h pins s us I r⟩
theorem wpGs_of {X : Cx} {ts : List Expr} {t : TGs} (h : PGs X ts t) {vs : List V} {σ : St} {H : Hp} {Q : St → Hp → Prop} (q : t vs σ H Q) : wpGs X ts vs σ H Q := by
  unfold wpGs
  exact fun pins s us I r => h.run pins s σ H vs us Q I r q
@[irreducible] def wpI (X : Cx) (tg iter : Expr) : TI := fun σ H R => ∀ (pins : List (Addr × Obj)) (s : Shared), Inv X pins σ H s →
    wpAny (model X.prog X.w) X.A (eval iter X.env) (fun v s1 => wpAny (model X.prog X.w) X.A (pyIter v) (PIE X pins σ tg R) X.xe s1) X.xe s
theorem pi_w {X : Cx} {tg iter : Expr} : PI X tg iter (wpI X tg iter) := ⟨fun pins s _ _ _ I h => by unfold wpI at h; exact h pins s I⟩
theorem wpI_of {X : Cx} {tg iter : Expr} {t : TI} (h : PI X tg iter t) {σ : St} {H : Hp} {R : It → Hp → Prop} (q : t σ H R) : wpI X tg iter σ H R := by
  unfold wpI
  exact fun pins s I => h.run pins s σ H R I q

/-! ### data in a heap -/
/-- a tuple is known to be plain, or begins with no object -/
def NPh (xs : List V) : Prop := ∃ x, xs.head? = some x ∧ ∀ b : Addr, x ≠ .ref b
def okT : HO → Prop
  | .tup xs => NPh xs
  | .frz o (.tup _) => o.dict = none
  | .ext φ => ∀ h : Heap, φ h → ∃ a o es ep, h.get? a = some o ∧ o.data = .dict es ep
  | _ => True
open Classical in
noncomputable def res (H : Hp) (ow : Addr → Prop) : Hp := fun a => if ow a ∨ ∃ o, H a = some o ∧ ¬ okT o then none else H a
theorem res_some {H : Hp} {ow : Addr → Prop} {a : Addr} {o : HO} : res H ow a = some o ↔ ¬ ow a ∧ H a = some o ∧ okT o := by
  unfold res
  by_cases h : ow a ∨ ∃ o, H a = some o ∧ ¬ okT o
  · rw [if_pos h]
    refine ⟨fun z => (nomatch z), fun z => ?_⟩
    rcases h with h | ⟨u, h1, h2⟩
    · exact absurd h z.1
    · rw [z.2.1] at h1; cases h1
      exact absurd z.2.2 h2
  · rw [if_neg h]
    refine ⟨fun z => ⟨fun y => h (.inl y), z, Classical.byContradiction fun y => h (.inr ⟨o, z, y⟩)⟩, fun z => z.2.1⟩
theorem res_put {H : Hp} {ow : Addr → Prop} {a : Addr} {o : HO} (n : ¬ ow a) (e : H a = some o) (k : okT o := by trivial) : res H ow a = some o := res_some.mpr ⟨n, e, k⟩
theorem res_at {H : Hp} {ow : Addr → Prop} {a : Addr} {o : HO} (h : res H ow a = some o) : H a = some o := (res_some.mp h).2.1
theorem res_ok {H : Hp} {ow : Addr → Prop} {a : Addr} {o : HO} (h : res H ow a = some o) : okT o := (res_some.mp h).2.2
theorem res_none {H : Hp} {ow : Addr → Prop} {a : Addr} (h : H a = none) : res H ow a = none := by
  unfold res
  split
  · rfl
  · exact h
theorem res_le {H : Hp} {ow : Addr → Prop} : Same (res H ow) H := fun _ _ e => res_at e
theorem res_mono {H H' : Hp} {ow ow' : Addr → Prop} (h : ∀ a o, ¬ ow a → H a = some o → ¬ ow' a ∧ H' a = some o) : Same (res H ow) (res H' ow') := fun a o e => by
  obtain ⟨n, e, k⟩ := res_some.mp e
  exact res_put (h a o n e).1 (h a o n e).2 k

variable {K : PySem.W.Frag}
theorem rd_same {H H' : Hp} {a : Addr} {u : HO} (e : Same H H') (h : Rd H a u) : Rd H' a u := by
  rcases h with h | ⟨o, h⟩
  · exact .inl (e _ _ h)
  · exact .inr ⟨o, e _ _ h⟩
theorem sqL_same {H H' : Hp} {a : Addr} {xs : List V} (e : Same H H') (h : SqL K H a xs) : SqL K H' a xs := by
  rcases h with h | h
  · exact .inl (rd_same e h)
  · exact .inr h
theorem sqT_same {H H' : Hp} {a : Addr} {xs : List V} (e : Same H H') (h : SqT K H a xs) : SqT K H' a xs := by
  rcases h with h | h
  · exact .inl (rd_same e h)
  · exact .inr h
mutual
theorem dp_same {H H' : Hp} (e : Same H H') : ∀ (d : D) (v : V), Dp K H v d → Dp K H' v d
  | .none, _, h => by cases h; exact .non
  | .bool b, _, h => by cases h; exact .bl b
  | .int i, _, h => by cases h; exact .int i
  | .str x, _, h => by cases h; exact .str x
  | .list ds, _, h => by
    cases h with
    | lst hs ha => exact .lst (sqL_same e hs) (dpAll_same e ds _ ha)
  | .tuple ds, _, h => by
    cases h with
    | tup hs ha => exact .tup (sqT_same e hs) (dpAll_same e ds _ ha)
  | .dict _, _, h => by cases h
theorem dpAll_same {H H' : Hp} (e : Same H H') : ∀ (ds : List D) (vs : List V), DpAll K H vs ds → DpAll K H' vs ds
  | [], _, h => by cases h; exact .nil
  | d :: ds, _, h => by
    cases h with
    | cons h1 h2 => exact .cons (dp_same e d _ h1) (dpAll_same e ds _ h2)
end
/-! data without lists -/
mutual
def lf : D → Bool
  | .none => true
  | .bool _ => true
  | .int _ => true
  | .str _ => true
  | .list _ => false
  | .tuple ds => lfAll ds
  | .dict _ => false
def lfAll : List D → Bool
  | [] => true
  | d :: ds => lf d && lfAll ds
end
theorem lfAll_iff : ∀ {ds : List D}, lfAll ds = true ↔ ∀ d ∈ ds, lf d = true
  | [] => by simp [lfAll]
  | d :: ds => by
    rw [lfAll, Bool.and_eq_true, lfAll_iff]
    simp
mutual
theorem dp_lf {H H' : Hp} (e : ∀ a xs, Rd H a (.tup xs) → Rd H' a (.tup xs)) : ∀ (d : D) (v : V), lf d = true → Dp K H v d → Dp K H' v d
  | .none, _, _, h => by cases h; exact .non
  | .bool b, _, _, h => by cases h; exact .bl b
  | .int i, _, _, h => by cases h; exact .int i
  | .str x, _, _, h => by cases h; exact .str x
  | .list ds, _, l, h => by simp [lf] at l
  | .tuple ds, _, l, h => by
    cases h with
    | tup hs ha =>
      refine .tup ?_ (dpAll_lf e ds _ (by simpa [lf] using l) ha)
      rcases hs with hs | hs
      · exact .inl (e _ _ hs)
      · exact .inr hs
  | .dict _, _, _, h => by cases h
theorem dpAll_lf {H H' : Hp} (e : ∀ a xs, Rd H a (.tup xs) → Rd H' a (.tup xs)) : ∀ (ds : List D) (vs : List V), lfAll ds = true → DpAll K H vs ds → DpAll K H' vs ds
  | [], _, _, h => by cases h; exact .nil
  | d :: ds, _, l, h => by
    cases h with
    | cons h1 h2 =>
      rw [lfAll, Bool.and_eq_true] at l
      exact .cons (dp_lf e d _ l.1 h1) (dpAll_lf e ds _ l.2 h2)
end
theorem dpAll_len {H : Hp} : ∀ {vs : List V} {ds : List D}, DpAll K H vs ds → vs.length = ds.length
  | _, [], h => by cases h; rfl
  | _, _ :: _, h => by
    cases h with
    | cons _ h2 => simp [dpAll_len h2]
theorem dpAll_get {H : Hp} : ∀ {vs : List V} {ds : List D} {i : Nat} {d : D}, DpAll K H vs ds → ds[i]? = some d → ∃ v, vs[i]? = some v ∧ Dp K H v d
  | _, [], _, _, _, e => by simp at e
  | _, _ :: _, 0, _, .cons h1 _, e => ⟨_, rfl, by
    have e' := Option.some.inj e
    exact e' ▸ h1⟩
  | _, _ :: ds, i + 1, d, .cons _ h2, e => by
    obtain ⟨v, a, b⟩ := dpAll_get (i := i) (d := d) h2 (by simpa using e)
    exact ⟨v, by simpa using a, b⟩
theorem dpAll_at {H : Hp} : ∀ {vs : List V} {ds : List D} {i : Nat} {v : V}, DpAll K H vs ds → vs[i]? = some v → ∃ d, ds[i]? = some d ∧ Dp K H v d
  | _, [], _, _, h, e => by cases h; simp at e
  | _, _ :: _, 0, _, .cons h1 _, e => ⟨_, rfl, by
    have e' := Option.some.inj e
    exact e' ▸ h1⟩
  | _, _ :: ds, i + 1, v, .cons _ h2, e => by
    obtain ⟨d, a, b⟩ := dpAll_at (i := i) (v := v) h2 (by simpa using e)
    exact ⟨d, by simpa using a, b⟩
theorem dpAll_append {H : Hp} : ∀ {vs ws : List V} {ds es : List D}, DpAll K H vs ds → DpAll K H ws es → DpAll K H (vs ++ ws) (ds ++ es)
  | _, _, [], _, .nil, h => h
  | _, _, _ :: _, _, .cons h1 h2, h => .cons h1 (dpAll_append h2 h)
theorem dpAll_take {H : Hp} : ∀ {vs : List V} {ds : List D} (n : Nat), DpAll K H vs ds → DpAll K H (vs.take n) (ds.take n)
  | _, _, 0, _ => .nil
  | _, _, _ + 1, .nil => .nil
  | _, _, n + 1, .cons h1 h2 => .cons h1 (dpAll_take n h2)
theorem dpAll_drop {H : Hp} : ∀ {vs : List V} {ds : List D} (n : Nat), DpAll K H vs ds → DpAll K H (vs.drop n) (ds.drop n)
  | _, _, 0, h => h
  | _, _, _ + 1, .nil => .nil
  | _, _, n + 1, .cons _ h2 => dpAll_drop n h2

/-! ### dicts whose keys are None and ints, or tuples of such -/
inductive Th where
  | dl (kds : List (OI × D))
  | dt (kds : List (List OI × D))
def KvOk {α : Type} (K : PySem.W.Frag) (H : Hp) : List (α × V) → List (α × D) → Prop := Paired fun p q => p.1 = q.1 ∧ Dp K H p.2 q.2
theorem KvOk.same {α : Type} {H H' : Hp} (e : Same H H') : ∀ {kvs : List (α × V)} {kds : List (α × D)}, KvOk K H kvs kds → KvOk K H' kvs kds
  | _, _, .nil => .nil
  | _, _, .cons h t => .cons ⟨h.1, dp_same e _ _ h.2⟩ (KvOk.same e t)
def XtOk (K : PySem.W.Frag) (H : Hp) : List (List OI × Addr × V) → List (List OI × D) → Prop := Paired fun x p => x.1 = p.1 ∧ SqT K H x.2.1 (x.1.map oiV) ∧ Dp K H x.2.2 p.2
def ThIs (K : PySem.W.Frag) (R : Hp) (a : Addr) (o : HO) : Th → Prop
  | .dl kds => ∃ kvs, o = DLo a kvs ∧ KvOk K R kvs kds
  | .dt kds => ∃ xs, o = DTo a xs ∧ XtOk K R xs kds
def Th.lf : Th → Bool
  | .dl kds => lfAll (kds.map (·.2))
  | .dt kds => lfAll (kds.map (·.2))
theorem XtOk.same {H H' : Hp} (e : Same H H') : ∀ {xs : List (List OI × Addr × V)} {kds : List (List OI × D)}, XtOk K H xs kds → XtOk K H' xs kds
  | _, _, .nil => .nil
  | _, _, .cons h t => .cons ⟨h.1, sqT_same e h.2.1, dp_same e _ _ h.2.2⟩ (XtOk.same e t)
theorem ThIs.same {H H' : Hp} {a : Addr} {o : HO} (e : Same H H') : ∀ {x : Th}, ThIs K H a o x → ThIs K H' a o x
  | .dl _, ⟨kvs, h1, h2⟩ => ⟨kvs, h1, KvOk.same e h2⟩
  | .dt _, ⟨xs, h1, h2⟩ => ⟨xs, h1, XtOk.same e h2⟩
theorem KvOk.lf {α : Type} {H H' : Hp} (e : ∀ a xs, Rd H a (.tup xs) → Rd H' a (.tup xs)) : ∀ {kvs : List (α × V)} {kds : List (α × D)}, lfAll (kds.map (·.2)) = true → KvOk K H kvs kds → KvOk K H' kvs kds
  | _, _, _, .nil => .nil
  | _, _, l, .cons h t => by
    simp only [List.map_cons, lfAll, Bool.and_eq_true] at l
    exact .cons ⟨h.1, dp_lf e _ _ l.1 h.2⟩ (KvOk.lf e l.2 t)
theorem XtOk.lf {H H' : Hp} (e : ∀ a xs, Rd H a (.tup xs) → Rd H' a (.tup xs)) : ∀ {xs : List (List OI × Addr × V)} {kds : List (List OI × D)}, lfAll (kds.map (·.2)) = true → XtOk K H xs kds → XtOk K H' xs kds
  | _, _, _, .nil => .nil
  | _, _, l, .cons h t => by
    simp only [List.map_cons, lfAll, Bool.and_eq_true] at l
    exact .cons ⟨h.1, h.2.1.imp (e _ _) id, dp_lf e _ _ l.1 h.2.2⟩ (XtOk.lf e l.2 t)
theorem ThIs.lf {H H' : Hp} {a : Addr} {o : HO} (e : ∀ a xs, Rd H a (.tup xs) → Rd H' a (.tup xs)) : ∀ {x : Th}, x.lf = true → ThIs K H a o x → ThIs K H' a o x
  | .dl _, l, ⟨kvs, h1, h2⟩ => ⟨kvs, h1, KvOk.lf e l h2⟩
  | .dt _, l, ⟨xs, h1, h2⟩ => ⟨xs, h1, XtOk.lf e l h2⟩
theorem ThIs.ext {H : Hp} {a : Addr} {o : HO} : ∀ {x : Th}, ThIs K H a o x → ∃ φ, o = .ext φ
  | .dl _, ⟨_, h, _⟩ => ⟨_, h⟩
  | .dt _, ⟨_, h, _⟩ => ⟨_, h⟩
/-- there, or walked -/
def ThAt (K : PySem.W.Frag) (R : Hp) (a : Addr) (x : Th) : Prop := ∃ o, Rd R a o ∧ ThIs K R a o x
theorem ThAt.same {H H' : Hp} {a : Addr} {x : Th} (e : Same H H') (h : ThAt K H a x) : ThAt K H' a x := let ⟨o, h1, h2⟩ := h; ⟨o, rd_same e h1, h2.same e⟩
/-! ### what draws change -/
/-- not a tuple | a list or a dict -/
def Mv : HO → Prop
  | .tup _ => False
  | .frz _ _ => False
  | _ => True
def Lk : HO → Prop
  | .lst _ => True
  | .dK _ => True
  | .dT _ => True
  | .set _ _ => True
  | .frz _ _ => True
  | .ext φ => ∀ h : Heap, φ h → ∃ a o, h.get? a = some o ∧ ∀ vs, o.data ≠ .fields vs
  | _ => False
theorem ThIs.lk {H : Hp} {a : Addr} {o : HO} : ∀ {x : Th}, ThIs K H a o x → Lk o
  | .dl _, ⟨_, h, _⟩ => by
    subst h
    exact fun h ⟨_, _, _, es, ⟨o, ep, e1, _, e2⟩, _⟩ => ⟨a, o, e1, fun vs z => by rw [e2] at z; cases z⟩
  | .dt _, ⟨_, h, _⟩ => by
    subst h
    exact fun h ⟨_, _, _, es, ⟨o, ep, e1, _, e2⟩, _⟩ => ⟨a, o, e1, fun vs z => by rw [e2] at z; cases z⟩
theorem ThIs.ok {H : Hp} {a : Addr} {o : HO} : ∀ {x : Th}, ThIs K H a o x → okT o
  | .dl _, ⟨_, h, _⟩ => by
    subst h
    exact fun h ⟨_, _, _, es, ⟨o, ep, e1, _, e2⟩, _⟩ => ⟨a, o, es, ep, e1, e2⟩
  | .dt _, ⟨_, h, _⟩ => by
    subst h
    exact fun h ⟨_, _, _, es, ⟨o, ep, e1, _, e2⟩, _⟩ => ⟨a, o, es, ep, e1, e2⟩
/-- a list that only one's own dict holds -/
def LLo (a : Addr) (vs : List V) : HO := .ext fun h => ∃ its n, Vals vs its ∧ h.get? a = some { cls := .type "list", data := .seq its.toArray n }
theorem rel_any (v : V) : ∃ u, RelV v u := by
  cases v with
  | non => exact ⟨_, rfl⟩
  | bl b => exact ⟨_, rfl⟩
  | int i => exact ⟨_, 0, rfl⟩
  | str x => exact ⟨_, 0, rfl⟩
  | byt b => exact ⟨_, 0, rfl⟩
  | flt b => exact ⟨_, 0, rfl⟩
  | ref a => exact ⟨_, rfl⟩
  | ty n => exact ⟨_, rfl⟩
theorem vals_any : ∀ vs : List V, ∃ us, Vals vs us
  | [] => ⟨[], .nil⟩
  | v :: vs => by
    obtain ⟨u, h⟩ := rel_any v
    obtain ⟨us, hs⟩ := vals_any vs
    exact ⟨u :: us, .cons h hs⟩
theorem heap_all (n : Nat) (ob : Obj) (hf : ∀ c d s, ob ≠ ⟨c, d, .freed, s⟩) (a : Addr) : Heap.get? ⟨Array.replicate n ob, {}⟩ a = if a < n then some ob else none := by
  unfold Heap.get?
  by_cases e : a < n
  · rw [if_pos e]
    simp only [Array.getElem?_replicate, e, if_true]
    split
    · rename_i h
      exact absurd (Option.some.inj h) (hf _ _ _)
    · rfl
  · rw [if_neg e]
    simp [Array.getElem?_replicate, e]
theorem llo_nok {a : Addr} {vs : List V} : ¬ okT (LLo a vs) := fun h => by
  obtain ⟨us, hu⟩ := vals_any vs
  have hg := heap_all (a + 1) { cls := .type "list", data := .seq us.toArray 0 } (fun c d s z => by cases z)
  obtain ⟨b, o, es, ep, e1, e2⟩ := h ⟨Array.replicate (a + 1) { cls := .type "list", data := .seq us.toArray 0 }, {}⟩ ⟨us, 0, hu, by rw [hg, if_pos (Nat.lt_succ_self a)]⟩
  rw [hg] at e1
  split at e1
  · cases e1
    cases e2
  · cases e1
theorem llo_inj {a : Addr} {vs ws : List V} (e : LLo a vs = LLo a ws) : vs = ws := by
  obtain ⟨us, hu⟩ := vals_any vs
  have hg := heap_all (a + 1) { cls := .type "list", data := .seq us.toArray 0 } (fun c d s z => by cases z)
  have e := HO.ext.inj e
  have h := congrFun e ⟨Array.replicate (a + 1) { cls := .type "list", data := .seq us.toArray 0 }, {}⟩
  obtain ⟨its, n, hv, he⟩ := (iff_of_eq h).mp ⟨us, 0, hu, by rw [hg, if_pos (Nat.lt_succ_self a)]⟩
  rw [hg, if_pos (Nat.lt_succ_self a)] at he
  have e2 : us = its := by
    injection he with he
    injection he with _ _ he _
    injection he with he _
    simpa using he
  subst e2
  exact Vals.inj hu hv
theorem llo_lk {a : Addr} {vs : List V} : Lk (LLo a vs) := fun h ⟨its, n, _, e⟩ => ⟨a, _, e, fun vs z => by cases z⟩
theorem codeO_nlk {c : Addr} {q : Str} : ¬ Lk (LamX.CodeO c q) := fun h => by
  have hg : ∀ a, (Heap.get? ⟨Array.replicate (c + 1) { cls := .none, data := .fields #[.none, .str q 0] }, {}⟩ a) = if a < c + 1 then some { cls := .none, data := .fields #[.none, .str q 0] } else none := fun a => by
    unfold Heap.get?
    by_cases e : a < c + 1
    · rw [if_pos e]
      simp [Array.getElem?_replicate, e]
    · rw [if_neg e]
      simp [Array.getElem?_replicate, e]
  obtain ⟨a, o, e1, e2⟩ := h ⟨Array.replicate (c + 1) { cls := .none, data := .fields #[.none, .str q 0] }, {}⟩ ⟨_, _, 0, by rw [hg, if_pos (Nat.lt_succ_self c)], rfl, rfl⟩
  rw [hg] at e1
  split at e1
  · cases e1
    exact e2 _ rfl
  · cases e1
structure Tn where
  ad : Addr → Prop
  inv : Hp → Prop
  val : V
  tr : ∀ {H : Hp} {a : Addr}, inv H → ad a → ∃ o, H a = some o ∧ Mv o
  dep : ∀ {H H' : Hp}, (∀ a o, H a = some o → ad a ∨ ¬ Lk o → H' a = some o) → inv H → inv H'
  /-- what is known of the heap at the def's beginning -/
  z : Hp → Prop
/-- none -/
def tn0 : Tn := ⟨fun _ => False, fun _ => True, .non, fun _ h => h.elim, fun _ h => h, fun _ => True⟩

/-! ### the state over data -/
inductive Sl where
  | un
  | dat (d : D)
  | lst (ds : List D)
  | dic (kds : List (Key × D))
  | town
  /-- a dict that is walked: read, not written -/
  | ldc (kds : List (Key × D))
  /-- a dict whose keys are tuples -/
  | dtc (kds : List (List Key × D))
  /-- one's own | looked at | walked -/
  | th (x : Th)
  | tv (x : Th)
  | tl (x : Th)
  /-- a dict whose values are lists of its own -/
  | dls (m : List (Key × List D))
def Sl.isOwn : Sl → Bool
  | .lst _ => true
  | .dic _ => true
  | .dtc _ => true
  | .th _ => true
  | .dls _ => true
  | _ => false
abbrev En := List Sl
/-- the addresses that may change -/
def own (τ : Tn) (σ : St) (ρ : En) (a : Addr) : Prop := τ.ad a ∨ ∃ (i : Nat) (s : Sl), ρ[i]? = some s ∧ s.isOwn = true ∧ σ[i]? = some (some (.ref a))
def DlsOk (K : PySem.W.Frag) (τ : Tn) (H0 H R : Hp) : List (Key × V) → List (Key × List D) → Prop := Paired fun p q => p.1 = q.1 ∧ ∃ L vs, p.2 = .ref L ∧ H0 L = none ∧ ¬ τ.ad L ∧ H L = some (LLo L vs) ∧ DpAll K R vs q.2
theorem DlsOk.mono {τ : Tn} {H0 H H' R R' : Hp} (e : Same R R') (k : ∀ L vs, ¬ τ.ad L → H L = some (LLo L vs) → H' L = some (LLo L vs)) : ∀ {kvs : List (Key × V)} {m : List (Key × List D)}, DlsOk K τ H0 H R kvs m → DlsOk K τ H0 H' R' kvs m
  | _, _, .nil => .nil
  | _, _, .cons h t => .cons (by
      obtain ⟨h1, L, vs, h2, h3, h4, h5, h6⟩ := h
      exact ⟨h1, L, vs, h2, h3, h4, k L vs h4 h5, dpAll_same e _ _ h6⟩) (DlsOk.mono e k t)
theorem DlsOk.re {τ τ' : Tn} {H0 H0' H H' R R' : Hp} (k : ∀ L vs, H0 L = none → ¬ τ.ad L → H L = some (LLo L vs) → H0' L = none ∧ ¬ τ'.ad L ∧ H' L = some (LLo L vs)) (f : ∀ vs ds, DpAll K R vs ds → DpAll K R' vs ds) : ∀ {kvs : List (Key × V)} {m : List (Key × List D)}, DlsOk K τ H0 H R kvs m → DlsOk K τ' H0' H' R' kvs m
  | _, _, .nil => .nil
  | _, _, .cons h t => .cons (by
      obtain ⟨h1, L, vs, h2, h3, h4, h5, h6⟩ := h
      obtain ⟨k1, k2, k3⟩ := k L vs h3 h4 h5
      exact ⟨h1, L, vs, h2, k1, k2, k3, f _ _ h6⟩) (DlsOk.re k f t)
def SlOk (K : PySem.W.Frag) (τ : Tn) (H0 H R : Hp) (ov : Option (Option V)) : Sl → Prop
  | .un => True
  | .dat d => ∃ v, ov = some (some v) ∧ Dp K R v d
  | .lst ds => ∃ a vs, ov = some (some (.ref a)) ∧ H0 a = none ∧ ¬ τ.ad a ∧ H a = some (.lst vs) ∧ DpAll K R vs ds
  | .dic kds => ∃ a kvs, ov = some (some (.ref a)) ∧ H0 a = none ∧ ¬ τ.ad a ∧ H a = some (.dK kvs) ∧ KvOk K R kvs kds
  | .town => ov = some (some τ.val)
  | .ldc kds => ∃ a od kvs, ov = some (some (.ref a)) ∧ R a = some (.frz od (.dK kvs)) ∧ KvOk K R kvs kds
  | .dtc kds => ∃ a kvs, ov = some (some (.ref a)) ∧ H0 a = none ∧ ¬ τ.ad a ∧ H a = some (.dT kvs) ∧ KvOk K R kvs kds
  | .th x => ∃ a o, ov = some (some (.ref a)) ∧ H0 a = none ∧ ¬ τ.ad a ∧ H a = some o ∧ ThIs K R a o x
  | .tv x => ∃ a, ov = some (some (.ref a)) ∧ ThAt K R a x
  | .tl x => ∃ a od o, ov = some (some (.ref a)) ∧ R a = some (.frz od o) ∧ ThIs K R a o x
  | .dls m => ∃ a kvs, ov = some (some (.ref a)) ∧ H0 a = none ∧ ¬ τ.ad a ∧ H a = some (.dK kvs) ∧ DlsOk K τ H0 H R kvs m ∧ (kvs.map (·.2)).Nodup ∧ (kvs.map (·.1)).Nodup
theorem SlOk.mono {τ : Tn} {H0 H H' R R' : Hp} {ov : Option (Option V)} (e : Same R R') : ∀ {s : Sl}, (s.isOwn = true → ∀ a o, (ov = some (some (.ref a)) ∨ ∃ vs, o = LLo a vs) → ¬ τ.ad a → H a = some o → H' a = some o) → SlOk K τ H0 H R ov s → SlOk K τ H0 H' R' ov s
  | .un, _, _ => trivial
  | .dat d, _, ⟨v, a, b⟩ => ⟨v, a, dp_same e d v b⟩
  | .lst ds, k, ⟨a, vs, h1, h2, h3, h4, h5⟩ => ⟨a, vs, h1, h2, h3, k rfl a _ (.inl h1) h3 h4, dpAll_same e ds vs h5⟩
  | .dic kds, k, ⟨a, vs, h1, h2, h3, h4, h5⟩ => ⟨a, vs, h1, h2, h3, k rfl a _ (.inl h1) h3 h4, KvOk.same e h5⟩
  | .town, _, h => h
  | .ldc kds, _, ⟨a, od, kvs, h1, h2, h3⟩ => ⟨a, od, kvs, h1, e _ _ h2, KvOk.same e h3⟩
  | .dtc kds, k, ⟨a, vs, h1, h2, h3, h4, h5⟩ => ⟨a, vs, h1, h2, h3, k rfl a _ (.inl h1) h3 h4, KvOk.same e h5⟩
  | .th x, k, ⟨a, o, h1, h2, h3, h4, h5⟩ => ⟨a, o, h1, h2, h3, k rfl a _ (.inl h1) h3 h4, h5.same e⟩
  | .tv x, _, ⟨a, h1, h2⟩ => ⟨a, h1, h2.same e⟩
  | .tl x, _, ⟨a, od, o, h1, h2, h3⟩ => ⟨a, od, o, h1, e _ _ h2, h3.same e⟩
  | .dls m, k, ⟨a, kvs, h1, h2, h3, h4, h5, h6⟩ => ⟨a, kvs, h1, h2, h3, k rfl a _ (.inl h1) h3 h4, h5.mono e fun L vs n z => k rfl L _ (.inr ⟨vs, rfl⟩) n z, h6⟩
structure Rep (K : PySem.W.Frag) (τ : Tn) (H0 : Hp) (γ : List (V × D)) (H : Hp) (σ : St) (ρ : En) : Prop where
  len : σ.length = ρ.length
  ext : ∀ a o, H0 a = some o → ¬ τ.ad a → H a = some o
  inv : τ.inv H
  sl : ∀ (i : Nat) (s : Sl), ρ[i]? = some s → SlOk K τ H0 H (res H (own τ σ ρ)) σ[i]? s
  sep : ∀ (i j : Nat) (s t : Sl) (a : Addr), ρ[i]? = some s → ρ[j]? = some t → s.isOwn = true → t.isOwn = true → σ[i]? = some (some (.ref a)) → σ[j]? = some (some (.ref a)) → i = j
  gh : ∀ p ∈ γ, Dp K (res H (own τ σ ρ)) p.1 p.2
  zz : τ.z H0
/-- all stays but what draws change -/
structure Ext (τ : Tn) (H H' : Hp) : Prop where
  kp : ∀ a o, H a = some o → ¬ τ.ad a → H' a = some o
  inv : τ.inv H → τ.inv H'
theorem Ext.refl {τ : Tn} {H : Hp} : Ext τ H H := ⟨fun _ _ h _ => h, fun h => h⟩
theorem Ext.trans {τ : Tn} {H H1 H2 : Hp} (a : Ext τ H H1) (b : Ext τ H1 H2) : Ext τ H H2 := ⟨fun x o h n => b.kp x o (a.kp x o h n) n, fun h => b.inv (a.inv h)⟩
theorem Ext.of_same {τ : Tn} {H H' : Hp} (h : Same H H') : Ext τ H H' := ⟨fun a o e _ => h a o e, fun i => τ.dep (fun a o e _ => h a o e) i⟩
theorem Ext.fresh {τ : Tn} {H H' : Hp} (e : Ext τ H H') (i : τ.inv H) {a : Addr} (h : H' a = none) : H a = none := by
  cases q : H a with
  | none => rfl
  | some o =>
    by_cases ha : τ.ad a
    · obtain ⟨o', e', _⟩ := τ.tr (e.inv i) ha
      rw [h] at e'; cases e'
    · rw [e.kp a o q ha] at h; cases h
theorem Ext.new {τ : Tn} {H : Hp} {p : Addr} {o : HO} (h : H p = none) : Ext τ H (upd H p o) := .of_same fun b u e => by
  rw [upd_ne (ne_of_none e h)]
  exact e
section
variable {τ : Tn} {H0 H H' : Hp} {γ : List (V × D)} {σ : St} {ρ : En}
theorem own_ad {a : Addr} (h : τ.ad a) : own τ σ ρ a := .inl h
theorem Rep.ownMut (r : Rep K τ H0 γ H σ ρ) {a : Addr} (h : own τ σ ρ a) : ∃ o, H a = some o ∧ Mv o := by
  rcases h with h | ⟨i, s, h1, h2, h3⟩
  · exact τ.tr r.inv h
  · have q := r.sl i s h1
    cases s with
    | lst ds =>
      obtain ⟨b, vs, e, _, _, e2, _⟩ := q
      rw [h3] at e; cases e
      exact ⟨_, e2, trivial⟩
    | dic kds =>
      obtain ⟨b, vs, e, _, _, e2, _⟩ := q
      rw [h3] at e; cases e
      exact ⟨_, e2, trivial⟩
    | un => cases h2
    | dat d => cases h2
    | town => cases h2
    | ldc kds => cases h2
    | dtc kds =>
      obtain ⟨b, vs, e, _, _, e2, _⟩ := q
      rw [h3] at e; cases e
      exact ⟨_, e2, trivial⟩
    | th x =>
      obtain ⟨b, o, e, _, _, e2, e3⟩ := q
      rw [h3] at e; cases e
      obtain ⟨φ, rfl⟩ := e3.ext
      exact ⟨_, e2, trivial⟩
    | tv x => cases h2
    | tl x => cases h2
    | dls m =>
      obtain ⟨b, kvs, e, _, _, e2, _⟩ := q
      rw [h3] at e; cases e
      exact ⟨_, e2, trivial⟩
/-- what one owns is no such list -/
theorem Rep.notL (r : Rep K τ H0 γ H σ ρ) {i : Nat} {s : Sl} {p : Addr} {vs : List V} (hi : ρ[i]? = some s) (hs : s.isOwn = true) (hv : σ[i]? = some (some (.ref p))) (h : H p = some (LLo p vs)) : False := by
  have q := r.sl i s hi
  rw [hv] at q
  cases s with
  | lst ds => obtain ⟨b, ws, e, _, _, e2, _⟩ := q; cases e; rw [h] at e2; cases e2
  | dic kds => obtain ⟨b, ws, e, _, _, e2, _⟩ := q; cases e; rw [h] at e2; cases e2
  | dtc kds => obtain ⟨b, ws, e, _, _, e2, _⟩ := q; cases e; rw [h] at e2; cases e2
  | dls m => obtain ⟨b, ws, e, _, _, e2, _⟩ := q; cases e; rw [h] at e2; cases e2
  | th x =>
    obtain ⟨b, o, e, _, _, e2, e3⟩ := q
    cases e
    rw [h] at e2
    cases e2
    exact llo_nok e3.ok
  | _ => cases hs
theorem Rep.notOwn (r : Rep K τ H0 γ H σ ρ) {a : Addr} (h : H a = none) : ¬ own τ σ ρ a := fun z => by
  obtain ⟨o, e, _⟩ := r.ownMut z
  rw [h] at e; cases e
theorem res_ext (e : Ext τ H H') {ow : Addr → Prop} (h : ∀ a, τ.ad a → ow a) : Same (res H ow) (res H' ow) := res_mono fun a o n q => ⟨n, e.kp a o q fun z => n (h a z)⟩
theorem Rep.after (r : Rep K τ H0 γ H σ ρ) (e : Ext τ H H') : Rep K τ H0 γ H' σ ρ where
  len := r.len
  ext := fun a o h n => e.kp a o (r.ext a o h n) n
  inv := e.inv r.inv
  sl := fun i s h => SlOk.mono (res_ext e fun a => own_ad) (fun _ a o _ n q => e.kp a o q n) (r.sl i s h)
  sep := r.sep
  gh := fun p hp => dp_same (res_ext e fun a => own_ad) _ _ (r.gh p hp)
  zz := r.zz
/-- what is told of an object without lists is true beside all that may change -/
theorem Rep.lfRes (r : Rep K τ H0 γ H σ ρ) {ow : Addr → Prop} {v : V} {d : D} (hm : ∀ a, ow a → ∃ o, H a = some o ∧ Mv o) {R : Hp} (hR : Same R H) (hO : ∀ a o, R a = some o → okT o) (l : lf d = true) (h : Dp K R v d) : Dp K (res H ow) v d :=
  dp_lf (fun a xs h => by
    have nm : ∀ u : HO, H a = some u → ¬ Mv u → ¬ ow a := fun u e n z => by
      obtain ⟨o, e', m⟩ := hm a z
      rw [e] at e'; cases e'
      exact n m
    rcases h with h | ⟨o, h⟩
    · exact .inl (res_put (nm _ (hR _ _ h) fun z => z) (hR _ _ h) (hO _ _ h))
    · exact .inr ⟨o, res_put (nm _ (hR _ _ h) fun z => z) (hR _ _ h) (hO _ _ h)⟩) d v l h
/-- the object of a tuple that was laid anew -/
def plT (its : List Value) : Obj := { cls := .type "tuple", data := .seq its.toArray }
theorem objOk_plT {P : Program} {w : World} {H : Hp} {h : Heap} {xs : List V} {its : List Value} (hz : xs.length ≤ sizeLine) (r : Vals xs its) : ObjOk P w (upd H h.objs.size (.frz (plT its) (.tup xs))) (h.push (plT its)) h.objs.size (.frz (plT its) (.tup xs)) :=
  ⟨Heap.get?_push_size _ rfl, hz, its, r, IsTup.new _ _⟩
theorem inv_plT {X : Cx} {pins : List (Addr × Obj)} {σ : St} {H : Hp} {s : Shared} {t' : Nat} {xs : List V} {its : List Value} (I : Inv X pins σ H s) (hz : xs.length ≤ sizeLine) (r : Vals xs its) :
    Inv X pins σ (upd H s.heap.objs.size (.frz (plT its) (.tup xs))) { s with heap := s.heap.push (plT its), toks := t' } :=
  I.laid (fun _ _ e => Heap.get?_push_of_some _ e) (Nat.le_refl _) (objOk_plT hz r)
end
end Pu
namespace Pu
open PySem PySem.Spec PyProof.Rows L2

/-! ### tuples laid plainly -/
def tTupP (t : TA) : TE := fun σ H Q => t σ H fun xs H1 => xs.length ≤ sizeLine ∧ ∀ p o, o.dict = none → H1 p = none → Q (.ref p) (upd H1 p (.frz o (.tup xs)))
theorem pe_tupP {X : Cx} {es : List Expr} {t : TA} {pos : Pos} {n : Nat} (h : PA X es t) : PE X (.Tuple es n pos) (tTupP t) := by
  refine ⟨fun pins s σ H Q I hq => wpAny_Tuple_spliced (thn (h.run pos pins s σ H _ I hq) fun us s1 ⟨xs, H1, I1, r, z, q⟩ => ?_)⟩
  refine ⟨by rw [← r.length]; exact z, .ref s1.heap.objs.size, _, inv_plT (t' := s1.toks) I1 z r, rfl, q _ _ rfl (I1.hok.fresh (Nat.le_refl _))⟩

/-! ### where one stands -/
structure Gx where
  P : Program
  w : World
  K : PySem.W.Frag
  mg : Str → Option Value
  base : Heap
structure Ok (cp : List Str) (G : Gx) (N : List Str) (sc : Scope) (k : Nat) (X : Cx) : Prop where
  eP : X.prog = G.P
  ew : X.w = G.w
  eK : X.K = G.K
  em : X.mg = G.mg
  eb : X.base = G.base
  eN : X.N = N
  nd : N.Nodup
  es : X.env.scope = sc
  kd : sc.kind = .function
  calm : X.calm = true
  room : Room k X.A
  fn : ∀ x, sc.names.lookup x = some .cell → cp.contains x = false → X.fn x = true
  po : PassesOwn (model X.prog X.w) X.A X.env X.xe

/-- x may be stored -/
def LocC (cp : List Str) (sc : Scope) (x : Str) : Prop := sc.names.lookup x = some .local ∨ (sc.names.lookup x = some .cell ∧ cp.contains x = false)

/-! ### results -/
inductive Rs where
  | dat (d : D)
  | lst (ds : List D)
  | dic (kds : List (Key × D))
  | th (x : Th)
  | dll (m : List (Key × List D))
def toK (m : List (Key × List D)) : List (Key × D) := m.map fun q => (q.1, .list q.2)
def FrV (Hs : Hp) (a : Addr) (kvs : List (Key × V)) : Prop := ∀ p ∈ kvs, ∃ L : Addr, p.2 = .ref L ∧ L ≠ a ∧ Hs L = none
def RsOk (K : PySem.W.Frag) (τ : Tn) (Hs H : Hp) (σ : St) (ρ : En) (v : V) : Rs → Prop
  | .dat d => Dp K (res H (own τ σ ρ)) v d
  | .lst ds => ∃ a vs, v = .ref a ∧ Hs a = none ∧ H a = some (.lst vs) ∧ DpAll K (res H (fun b => own τ σ ρ b ∨ b = a)) vs ds
  | .dic kds => ∃ a kvs, v = .ref a ∧ Hs a = none ∧ H a = some (.dK kvs) ∧ KvOk K (res H (fun b => own τ σ ρ b ∨ b = a)) kvs kds
  | .th x => ∃ a o, v = .ref a ∧ Hs a = none ∧ H a = some o ∧ ThIs K (res H (fun b => own τ σ ρ b ∨ b = a)) a o x
  | .dll m => ∃ a kvs, v = .ref a ∧ Hs a = none ∧ H a = some (.dK kvs) ∧ KvOk K (res H (fun b => own τ σ ρ b ∨ b = a)) kvs (toK m) ∧ FrV Hs a kvs
/-- a thing that is looked at -/
def Bo (K : PySem.W.Frag) (τ : Tn) (H R : Hp) (v : V) : D → Prop
  | .list ds => ∃ a vs, v = .ref a ∧ SqL K (res H τ.ad) a vs ∧ DpAll K R vs ds
  | .tuple ds => ∃ a vs, v = .ref a ∧ SqT K (res H τ.ad) a vs ∧ DpAll K R vs ds
  | .none => v = .non
  | .bool b => v = .bl b
  | .int i => v = .int i
  | .str x => v = .str x
  | .dict _ => False
section
variable {K : PySem.W.Frag} {τ : Tn} {H0 H H' : Hp} {γ : List (V × D)} {σ : St} {ρ : En} {v : V} {d : D}
theorem res_own_ad : Same (res H (own τ σ ρ)) (res H τ.ad) := res_mono fun a o n e => ⟨fun z => n (own_ad z), e⟩
theorem bo_of {R : Hp} (hR : Same R (res H τ.ad)) (h : Dp K R v d) : Bo K τ H R v d := by
  cases h with
  | non => rfl
  | bl b => rfl
  | int i => rfl
  | str x => rfl
  | lst hs ha => exact ⟨_, _, rfl, sqL_same hR hs, ha⟩
  | tup hs ha => exact ⟨_, _, rfl, sqT_same hR hs, ha⟩
theorem Bo.dp {R : Hp} (hR : Same R (res H τ.ad)) (h : Bo K τ H R v d) : Dp K (res H τ.ad) v d := by
  cases d with
  | none => cases h; exact .non
  | bool b => cases h; exact .bl b
  | int i => cases h; exact .int i
  | str x => cases h; exact .str x
  | list ds =>
    obtain ⟨a, vs, rfl, hs, ha⟩ := h
    exact .lst hs (dpAll_same hR _ _ ha)
  | tuple ds =>
    obtain ⟨a, vs, rfl, hs, ha⟩ := h
    exact .tup hs (dpAll_same hR _ _ ha)
  | dict _ => exact h.elim
theorem Bo.after (e : Ext τ H H') (h : Bo K τ H (res H (own τ σ ρ)) v d) : Bo K τ H' (res H' (own τ σ ρ)) v d := by
  have e1 : Same (res H τ.ad) (res H' τ.ad) := res_ext e fun _ z => z
  have e2 : Same (res H (own τ σ ρ)) (res H' (own τ σ ρ)) := res_ext e fun _ => own_ad
  cases d with
  | none => exact h
  | bool b => exact h
  | int i => exact h
  | str x => exact h
  | list ds =>
    obtain ⟨a, vs, rfl, hs, ha⟩ := h
    exact ⟨a, vs, rfl, sqL_same e1 hs, dpAll_same e2 _ _ ha⟩
  | tuple ds =>
    obtain ⟨a, vs, rfl, hs, ha⟩ := h
    exact ⟨a, vs, rfl, sqT_same e1 hs, dpAll_same e2 _ _ ha⟩
  | dict _ => exact h
theorem dp_after (e : Ext τ H H') (h : Dp K (res H (own τ σ ρ)) v d) : Dp K (res H' (own τ σ ρ)) v d := dp_same (res_ext e fun _ => own_ad) _ _ h
theorem dpAll_after {vs : List V} {ds : List D} (e : Ext τ H H') (h : DpAll K (res H (own τ σ ρ)) vs ds) : DpAll K (res H' (own τ σ ρ)) vs ds := dpAll_same (res_ext e fun _ => own_ad) _ _ h
/-- a result laid still -/
def Rs.cold : Rs → (D → Prop) → Prop
  | .dat d, C => C d
  | .lst ds, C => C (.list ds)
  | .dic _, _ => False
  | .th _, _ => False
  | .dll _, _ => False
theorem RsOk.cold {Hs : Hp} (r0 : Rep K τ H0 γ Hs σ ρ) {r : Rs} {C : D → Prop} (h : RsOk K τ Hs H σ ρ v r) (c : r.cold C) : ∃ d, C d ∧ Dp K (res H (own τ σ ρ)) v d := by
  cases r with
  | dat d => exact ⟨d, c, h⟩
  | lst ds =>
    obtain ⟨a, vs, rfl, hn, he, ha⟩ := h
    exact ⟨_, c, .lst (.inl (.inl (res_put (r0.notOwn hn) he))) (dpAll_same (res_mono fun b o n e => ⟨fun z => n (.inl z), e⟩) _ _ ha)⟩
  | dic kds => exact c.elim
  | th x => exact c.elim
  | dll m => exact c.elim
theorem RsOk.after {Hs : Hp} (r0 : Rep K τ H0 γ Hs σ ρ) {r : Rs} (e : Ext τ H H') (h : RsOk K τ Hs H σ ρ v r) : RsOk K τ Hs H' σ ρ v r := by
  cases r with
  | dat d => exact dp_after e h
  | lst ds =>
    obtain ⟨a, vs, rfl, hn, he, ha⟩ := h
    exact ⟨a, vs, rfl, hn, e.kp _ _ he fun z => r0.notOwn hn (own_ad z), dpAll_same (res_ext e fun b z => .inl (own_ad z)) _ _ ha⟩
  | dic kds =>
    obtain ⟨a, vs, rfl, hn, he, ha⟩ := h
    exact ⟨a, vs, rfl, hn, e.kp _ _ he fun z => r0.notOwn hn (own_ad z), KvOk.same (res_ext e fun b z => .inl (own_ad z)) ha⟩
  | th x =>
    obtain ⟨a, o, rfl, hn, he, ha⟩ := h
    exact ⟨a, o, rfl, hn, e.kp _ _ he fun z => r0.notOwn hn (own_ad z), ha.same (res_ext e fun b z => .inl (own_ad z))⟩
  | dll m =>
    obtain ⟨a, vs, rfl, hn, he, ha, hf⟩ := h
    exact ⟨a, vs, rfl, hn, e.kp _ _ he fun z => r0.notOwn hn (own_ad z), KvOk.same (res_ext e fun b z => .inl (own_ad z)) ha, hf⟩
end

/-! ### the judgements -/
abbrev UE := En → (Rs → Prop) → Prop
abbrev UV := En → (D → Prop) → Prop
abbrev UT := En → (Bool → Prop) → Prop
abbrev UL := En → (List D → Prop) → Prop
def JE (τ : Tn) (X : Cx) (e : Expr) (t : UE) : Prop := ∀ (ρ : En) (C : Rs → Prop), t ρ C → ∀ (H0 : Hp) (γ : List (V × D)) (σ : St) (H : Hp), Rep X.K τ H0 γ H σ ρ → ∀ Q : VK,
  (∀ r v H2, C r → Ext τ H H2 → RsOk X.K τ H H2 σ ρ v r → Q v H2) → wpE X e σ H Q
def JD (τ : Tn) (X : Cx) (e : Expr) (t : UV) : Prop := ∀ (ρ : En) (C : D → Prop), t ρ C → ∀ (H0 : Hp) (γ : List (V × D)) (σ : St) (H : Hp), Rep X.K τ H0 γ H σ ρ → ∀ Q : VK,
  (∀ d v H2, C d → Ext τ H H2 → Dp X.K (res H2 (own τ σ ρ)) v d → Q v H2) → wpE X e σ H Q
def JV (τ : Tn) (X : Cx) (e : Expr) (t : UV) : Prop := ∀ (ρ : En) (C : D → Prop), t ρ C → ∀ (H0 : Hp) (γ : List (V × D)) (σ : St) (H : Hp), Rep X.K τ H0 γ H σ ρ → ∀ Q : VK,
  (∀ d v H2, C d → Ext τ H H2 → Bo X.K τ H2 (res H2 (own τ σ ρ)) v d → Q v H2) → wpE X e σ H Q
def JT (τ : Tn) (X : Cx) (e : Expr) (t : UT) : Prop := ∀ (ρ : En) (C : Bool → Prop), t ρ C → ∀ (H0 : Hp) (γ : List (V × D)) (σ : St) (H : Hp), Rep X.K τ H0 γ H σ ρ → ∀ Q : Bool → Hp → Prop,
  (∀ b H2, C b → Ext τ H H2 → Q b H2) → wpT X e σ H Q
def JW (τ : Tn) (X : Cx) (e : Expr) (t : UT) : Prop := ∀ (ρ : En) (C : Bool → Prop), t ρ C → ∀ (H0 : Hp) (γ : List (V × D)) (σ : St) (H : Hp), Rep X.K τ H0 γ H σ ρ → ∀ Q : Bool → Hp → Prop,
  (∀ b H2, C b → Ext τ H H2 → Q b H2) → wpW X e σ H Q
/-- several things, strong | looked at -/
def JDs (τ : Tn) (X : Cx) (es : List Expr) (t : UL) : Prop := ∀ (ρ : En) (C : List D → Prop), t ρ C → ∀ (H0 : Hp) (γ : List (V × D)) (σ : St) (H : Hp), Rep X.K τ H0 γ H σ ρ → ∀ Q : List V → Hp → Prop,
  (∀ ds vs H2, ds.length = es.length → C ds → Ext τ H H2 → DpAll X.K (res H2 (own τ σ ρ)) vs ds → Q vs H2) → wpA X es σ H Q

section
variable {τ : Tn} {G : Gx} {cp : List Str} {N : List Str} {sc : Scope} {k : Nat} {X : Cx} {e e1 e2 e3 : Expr} {es : List Expr} {t u : UV} {te ue : UE} {pos : Pos}
theorem jv_d (h : JD τ X e t) : JV τ X e t := fun ρ C c H0 γ σ H r Q q => h ρ C c H0 γ σ H r Q fun d v H2 c e b => q d v H2 c e (bo_of res_own_ad b)
def eD (t : UV) : UE := fun ρ C => t ρ fun d => C (.dat d)
theorem je_d (h : JD τ X e t) : JE τ X e (eD t) := fun ρ C c H0 γ σ H r Q q => h ρ _ c H0 γ σ H r Q fun d v H2 c e b => q (.dat d) v H2 c e b
def dE (t : UE) : UV := fun ρ C => t ρ fun r => r.cold C
theorem jd_e (h : JE τ X e te) : JD τ X e (dE te) := fun ρ C c H0 γ σ H r Q q => h ρ _ c H0 γ σ H r Q fun rs v H2 c e b => by
  obtain ⟨d, cd, hd⟩ := b.cold r c
  exact q d v H2 cd e hd
theorem jv_e (h : JE τ X e te) : JV τ X e (dE te) := jv_d (jd_e h)
theorem jds_nil : JDs τ X [] fun _ C => C [] := fun ρ C c H0 γ σ H r Q q => wpA_of pa_nil (q [] [] H rfl c .refl .nil)
def lCons (t : UV) (ts : UL) : UL := fun ρ C => t ρ fun d => ts ρ fun ds => C (d :: ds)
theorem jds_cons {ts : UL} (h : JD τ X e t) (hs : JDs τ X es ts) (hst : starEach (e :: es) X.env = (false, eval e X.env) :: starEach es X.env := by rfl) : JDs τ X (e :: es) (lCons t ts) := fun ρ C c H0 γ σ H r Q q =>
  wpA_of (pa_cons pe_w pa_w hst) (h ρ _ c H0 γ σ H r _ fun d v H2 c e b => hs ρ _ c H0 γ σ H2 (r.after e) _ fun ds vs H3 hl c e2 b2 => q (d :: ds) (v :: vs) H3 (by simp [hl]) c (e.trans e2) (.cons (dp_after e2 b) b2))

/-! ### names, constants, displays -/
def dVar (i : Nat) : UV := fun ρ C => match ρ[i]? with
  | some (.dat d) => C d
  | _ => False
def vVar (i : Nat) : UV := fun ρ C => match ρ[i]? with
  | some (.dat d) => C d
  | some (.lst ds) => C (.list ds)
  | _ => False
theorem jd_var (S : Ok cp G N sc k X) (i : Nat) {x : Str} (hN : N[i]? = some x := by rfl) (hv : Vis sc x := by first | exact Or.inl rfl | exact Or.inr (Or.inl rfl) | exact Or.inr (Or.inr rfl)) (hd : (x == ("__debug__" : Str)) = false := by decide) (hcd : (x == ("__classdict__" : Str)) = false := by decide) :
    JD τ X (.Name x pos) (dVar i) := fun ρ C c H0 γ σ H r Q q => by
  refine wpE_of (pe_var (i := i) (by rw [S.eN]; exact hN) (by rw [S.es]; exact hv) hd hcd) ?_
  unfold dVar at c
  split at c
  · rename_i d hi
    obtain ⟨v, e, h⟩ := r.sl i _ hi
    exact ⟨v, e, q d v H c .refl h⟩
  · exact c.elim
theorem jv_var (S : Ok cp G N sc k X) (i : Nat) {x : Str} (hN : N[i]? = some x := by rfl) (hv : Vis sc x := by first | exact Or.inl rfl | exact Or.inr (Or.inl rfl) | exact Or.inr (Or.inr rfl)) (hd : (x == ("__debug__" : Str)) = false := by decide) (hcd : (x == ("__classdict__" : Str)) = false := by decide) :
    JV τ X (.Name x pos) (vVar i) := fun ρ C c H0 γ σ H r Q q => by
  refine wpE_of (pe_var (i := i) (by rw [S.eN]; exact hN) (by rw [S.es]; exact hv) hd hcd) ?_
  unfold vVar at c
  split at c
  · rename_i d hi
    obtain ⟨v, e, h⟩ := r.sl i _ hi
    exact ⟨v, e, q d v H c .refl (bo_of res_own_ad h)⟩
  · rename_i ds hi
    obtain ⟨a, vs, e, _, hn, h, h'⟩ := r.sl i _ hi
    exact ⟨_, e, q _ _ H c .refl ⟨a, vs, rfl, .inl (.inl (res_put hn h)), h'⟩⟩
  · exact c.elim
def dC (d : D) : UV := fun _ C => C d
theorem jd_c {v : V} {d : D} (h : PE X e (tC v)) (hd : ∀ H : Hp, Dp X.K H v d) : JD τ X e (dC d) := fun ρ C c H0 γ σ H r Q q => wpE_of h (q d v H c .refl (hd _))
theorem jd_int {i : Int} {j : Nat} : JD τ X (.Constant (.int i) j pos) (dC (.int i)) := jd_c pe_int fun _ => .int i
theorem jd_bl {b : Bool} {j : Nat} : JD τ X (.Constant (.bool b) j pos) (dC (.bool b)) := jd_c pe_bl fun _ => .bl b
theorem jd_non {j : Nat} : JD τ X (.Constant .none j pos) (dC .none) := jd_c pe_non fun _ => .non
theorem jd_str {x : Str} {j : Nat} : JD τ X (.Constant (.str x) j pos) (dC (.str x)) := jd_c pe_str fun _ => .str x
/-- a constant of the module -/
structure GC (G : Gx) (x : Str) (d : D) : Prop where
  ex : ∃ (v : V) (u : Value), G.mg x = some u ∧ RelV v u ∧ ∀ H : Hp, Dp G.K H v d
theorem jd_glob (S : Ok cp G N sc k X) {x : Str} {d : D} (h : GC G x d) (hg : sc.names.lookup x = some .globalImplicit := by rfl) (hd : (x == ("__debug__" : Str)) = false := by decide) : JD τ X (.Name x pos) (dC d) := by
  obtain ⟨v, u, h1, h2, h3⟩ := h.ex
  exact jd_c (pe_glob (by show X.env.scope.names.lookup x = _; rw [S.es]; exact hg) (by rw [S.em]; exact h1) h2 hd) (by rw [S.eK]; exact h3)
theorem small_line {n : Nat} (h : n ≤ 1000000) : n ≤ sizeLine := Nat.le_trans h (by decide)
def dTup (ts : UL) : UV := fun ρ C => ts ρ fun ds => C (.tuple ds)
theorem jd_tup {ts : UL} {x1 : Nat} (h : JDs τ X es ts) (hl : es.length ≤ 1000 := by decide) : JD τ X (.Tuple es x1 pos) (dTup ts) := fun ρ C c H0 γ σ H r Q q =>
  wpE_of (pe_tupP pa_w) (h ρ _ c H0 γ σ H r _ fun ds vs H2 el c e b => ⟨by rw [dpAll_len b, el]; exact small_line (by omega), fun p o ho hp =>
    q _ _ _ c (e.trans (.new hp)) (.tup (.inl (.inr ⟨o, res_put ((r.after e).notOwn hp) upd_same ho⟩)) (dpAll_after (.new hp) b))⟩)
def eLst (ts : UL) : UE := fun ρ C => ts ρ fun ds => C (.lst ds)
theorem je_lst {ts : UL} (h : JDs τ X es ts) (hl : es.length ≤ 1000 := by decide) : JE τ X (.List es pos) (eLst ts) := fun ρ C c H0 γ σ H r Q q =>
  wpE_of (pe_lst pa_w) (h ρ _ c H0 γ σ H r _ fun ds vs H2 el c e b => ⟨by rw [dpAll_len b, el]; exact small_line (by omega), fun p hp =>
    q _ _ _ c (e.trans (.new hp)) ⟨p, vs, rfl, e.fresh r.inv hp, upd_same, dpAll_same (res_mono fun a o n ea => by
      have hne : a ≠ p := ne_of_none ea hp
      exact ⟨fun z => z.elim n hne, by rw [upd_ne hne]; exact ea⟩) _ _ b⟩⟩)
end
end Pu
namespace Pu
open PySem PySem.Spec PyProof.Rows L2

/-! ### data that may be compared -/
mutual
def sh : Nat → D → Bool
  | _, .none => true
  | _, .bool _ => true
  | _, .int _ => true
  | _, .str x => PyData.canLay0 (.str x)
  | 0, .list _ => false
  | n + 1, .list ds => shAll n ds
  | 0, .tuple _ => false
  | n + 1, .tuple ds => shAll n ds
  | _, .dict _ => false
def shAll : Nat → List D → Bool
  | _, [] => true
  | n, d :: ds => sh n d && shAll n ds
end
theorem shAll_iff {n : Nat} : ∀ {ds : List D}, shAll n ds = true ↔ ∀ d ∈ ds, sh n d = true
  | [] => by simp [shAll]
  | d :: ds => by
    rw [shAll, Bool.and_eq_true, shAll_iff]
    simp
mutual
theorem sh_lay : ∀ (n : Nat) (d : D), sh n d = true → d.canLay0 = true ∧ d.depth ≤ n
  | _, .none, _ => ⟨by simp [PyData.canLay0], by simp [PyData.depth]⟩
  | _, .bool _, _ => ⟨by simp [PyData.canLay0], by simp [PyData.depth]⟩
  | _, .int _, _ => ⟨by simp [PyData.canLay0], by simp [PyData.depth]⟩
  | _, .str x, h => ⟨by simpa [sh] using h, by simp [PyData.depth]⟩
  | 0, .list _, h => by simp [sh] at h
  | n + 1, .list ds, h => by
    obtain ⟨a, b⟩ := shAll_lay n ds (by simpa [sh] using h)
    exact ⟨by simpa [PyData.canLay0] using a, by simp only [PyData.depth]; omega⟩
  | 0, .tuple _, h => by simp [sh] at h
  | n + 1, .tuple ds, h => by
    obtain ⟨a, b⟩ := shAll_lay n ds (by simpa [sh] using h)
    exact ⟨by simpa [PyData.canLay0] using a, by simp only [PyData.depth]; omega⟩
  | _, .dict _, h => by simp [sh] at h
theorem shAll_lay : ∀ (n : Nat) (ds : List D), shAll n ds = true → PyData.canLayAll0 ds = true ∧ PyData.depthAll ds ≤ n
  | _, [], _ => ⟨by simp [PyData.canLayAll0], by simp [PyData.depthAll]⟩
  | n, d :: ds, h => by
    rw [shAll, Bool.and_eq_true] at h
    obtain ⟨a, b⟩ := sh_lay n d h.1
    obtain ⟨a2, b2⟩ := shAll_lay n ds h.2
    exact ⟨by simp [PyData.canLayAll0, a, a2], by simp only [PyData.depthAll]; omega⟩
end
theorem sh_shaped {n : Nat} {d : D} (hn : n ≤ 64) (h : sh n d = true) : SeqAt.shaped d = true := by
  obtain ⟨a, b⟩ := sh_lay n d h
  show (d.canLay0 && decide (d.depth ≤ 64)) = true
  rw [Bool.and_eq_true]
  exact ⟨a, decide_eq_true (by omega)⟩

section
variable {τ : Tn} {G : Gx} {cp : List Str} {N : List Str} {sc : Scope} {k : Nat} {X : Cx} {a b c : Expr} {es : List Expr} {t u s : UV} {te ue : UE} {pos : Pos}
/-! ### operators -/
def Op2 (X : Cx) (r : R2) (f : D → D → (D → Prop) → Prop) : Prop := ∀ (τ : Tn) (H0 H : Hp) (γ : List (V × D)) (σ : St) (ρ : En) (v1 v2 : V) (d1 d2 : D) (C : D → Prop), Rep X.K τ H0 γ H σ ρ →
  Bo X.K τ H (res H (own τ σ ρ)) v1 d1 → Bo X.K τ H (res H (own τ σ ρ)) v2 d2 → f d1 d2 C → ∀ Q : VK, (∀ d v H2, C d → Ext τ H H2 → Dp X.K (res H2 (own τ σ ρ)) v d → Q v H2) → r v1 v2 H Q
def d2 (f : D → D → (D → Prop) → Prop) (t u : UV) : UV := fun ρ C => t ρ fun x => u ρ fun y => f x y C
theorem jd_op {op : Operator} {r : R2} {f : D → D → (D → Prop) → Prop} (ho : OpR X (binaryOp op) r) (hf : Op2 X r f) (ha : JV τ X a t) (hb : JV τ X b u) : JD τ X (.BinOp a op b pos) (d2 f t u) := fun ρ C c H0 γ σ H r Q q =>
  wpE_of (pe_op ho pe_w pe_w) (ha ρ _ c H0 γ σ H r _ fun d1 v1 H2 c e b1 => hb ρ _ c H0 γ σ H2 (r.after e) _ fun d2 v2 H3 c e2 b2 =>
    hf _ _ _ _ _ _ _ _ _ _ _ ((r.after e).after e2) (b1.after e2) b2 c Q fun d v H4 c e4 h => q d v H4 c ((e.trans e2).trans e4) h)
theorem sqT_of_mut {τ : Tn} {H0 H : Hp} {γ : List (V × D)} {σ : St} {ρ : En} {a : Addr} {vs : List V} (r : Rep X.K τ H0 γ H σ ρ) (h : SqT X.K (res H τ.ad) a vs) : SqT X.K (res H (own τ σ ρ)) a vs := by
  have nm : ∀ u : HO, H a = some u → ¬ Mv u → ¬ own τ σ ρ a := fun u e n z => by
    obtain ⟨o, e', m⟩ := r.ownMut z
    rw [e] at e'; cases e'
    exact n m
  rcases h with (h | ⟨o, h⟩) | h
  · have h' := res_at h
    exact .inl (.inl (res_put (nm _ h' fun z => z) h' (res_ok h)))
  · have h' := res_at h
    exact .inl (.inr ⟨o, res_put (nm _ h' fun z => z) h' (res_ok h)⟩)
  · exact .inr h
def fAdd : D → D → (D → Prop) → Prop
  | .int i, .int j, C => C (.int (i + j))
  | .str x, .str y, C => x.length + y.length ≤ 1000000 ∧ C (.str (x ++ y))
  | .tuple xs, .tuple ys, C => xs.length + ys.length ≤ 1000000 ∧ C (.tuple (xs ++ ys))
  | .list xs, .list ys, C => xs.length + ys.length ≤ 1000000 ∧ C (.list (xs ++ ys))
  | _, _, _ => False
/-- list + list, each of them any list -/
def rCatL (K : PySem.W.Frag) : R2 := fun x y H Q => ∃ a b xs ys, x = .ref a ∧ y = .ref b ∧ SqL K H a xs ∧ SqL K H b ys ∧ xs.length + ys.length ≤ sizeLine ∧ ∀ p, H p = none → Q (.ref p) (upd H p (.lst (xs ++ ys)))
theorem op_catL : OpR X (binaryOp .Add) (rCatL X.K) := by
  intro pins s σ H x y v u Q I rx ry h
  obtain ⟨l, b, xs, zs, rfl, rfl, hH, hB, hz, q⟩ := h
  cases rx
  cases ry
  obtain ⟨its, r, ⟨⟨cls, dd, data, sls⟩, n, ho, hc, hdn, hdt⟩, hl⟩ := I.list hH
  obtain ⟨its2, r2, ⟨⟨cls2, dd2, data2, sls2⟩, n2, ho2, hc2, hdn2, hdt2⟩, hl2⟩ := I.list hB
  simp only at hc hdt hc2 hdt2
  subst hc hdt hc2 hdt2
  have e1 := r.length
  have e2 := r2.length
  refine concat_meets ⟨_, ho, rfl⟩ ⟨_, ho2, rfl⟩ noFill_list_add seq_list_add PySem.F.slot_list_add PySem.F.entry_list_add (PySem.F.args_list_add_2 _ _) (list_addW l b its.toArray its2.toArray n n2 dd dd2 sls sls2 (by simp; omega)) ⟨ho, ho2, ?_⟩
  have ea : its.toArray ++ its2.toArray = (its ++ its2).toArray := by simp
  rw [ea]
  exact ⟨.ref _, _, I.lnew (t' := s.toks) (r.append r2) (by rw [List.length_append]; omega), rfl, q _ I.fresh⟩
/-- tuple + tuple, laid plainly -/
def rCatP (K : PySem.W.Frag) : R2 := fun x y H Q => ∃ a b xs ys, x = .ref a ∧ y = .ref b ∧ SqT K H a xs ∧ SqT K H b ys ∧ xs.length + ys.length ≤ sizeLine ∧
  (xs = [] → Q (.ref b) H) ∧ (ys = [] → Q (.ref a) H) ∧ ∀ p o, o.dict = none → H p = none → Q (.ref p) (upd H p (.frz o (.tup (xs ++ ys))))
theorem op_catP : OpR X (binaryOp .Add) (rCatP X.K) := by
  intro pins s σ H x y v u Q I rx ry h
  obtain ⟨a, b, xs, ys, rfl, rfl, ha, hb, hz, q0, q1, q2⟩ := h
  cases rx
  cases ry
  obtain ⟨us, r1, t1, _⟩ := I.tuple ha
  obtain ⟨ws, r2, t2, _⟩ := I.tuple hb
  by_cases hx : us = []
  · subst hx
    cases r1
    exact cat_tup0 t1 t2 ⟨.ref b, H, I, rfl, q0 rfl⟩
  · have l1 := r1.length
    have l2 := r2.length
    have I2 := inv_plT (t' := s.toks) I (xs := xs ++ ys) (by rw [List.length_append]; exact hz) (r1.append r2)
    exact HT.cat_tup t1 t2 hx (fun e => ⟨.ref a, H, I, rfl, q1 (List.eq_nil_of_length_eq_zero (by rw [e] at l2; exact l2))⟩) (fun _ => ⟨.ref s.heap.objs.size, _, I2, rfl, q2 _ _ rfl (I.hok.fresh (Nat.le_refl _))⟩) (by omega)
def rAddU (K : PySem.W.Frag) : R2 := fun x y H Q => rI0 (fun i j => .int (i + j)) x y H Q ∨ (∃ i j, x = .str i ∧ y = .str j ∧ i.length + j.length ≤ sizeLine ∧ Q (.str (i ++ j)) H) ∨ rCatP K x y H Q ∨ rCatL K x y H Q
theorem op_addU : OpR X (binaryOp .Add) (rAddU X.K) := op_add.or (op_add_str.or (op_catP.or op_catL))
theorem fAdd_ok : Op2 X (rAddU X.K) fAdd := fun τ H0 H γ σ ρ v1 v2 d1 d2 C r b1 b2 h Q q => by
  cases d1 <;> cases d2 <;> first | exact h.elim | skip
  · cases b1; cases b2
    exact .inl ⟨_, _, rfl, rfl, q _ _ H h .refl (.int _)⟩
  · cases b1; cases b2
    exact .inr (.inl ⟨_, _, rfl, rfl, small_line h.1, q _ _ H h.2 .refl (.str _)⟩)
  · obtain ⟨a, vs, rfl, hs, ha⟩ := b1
    obtain ⟨b, ws, rfl, ht, hb⟩ := b2
    refine .inr (.inr (.inr ⟨a, b, vs, ws, rfl, rfl, sqL_same res_le hs, sqL_same res_le ht, by rw [dpAll_len ha, dpAll_len hb]; exact small_line h.1, fun p hp => ?_⟩))
    exact q _ _ _ h.2 (.new hp) (.lst (.inl (.inl (res_put (r.notOwn hp) upd_same))) (dpAll_after (.new hp) (dpAll_append ha hb)))
  · obtain ⟨a, vs, rfl, hs, ha⟩ := b1
    obtain ⟨b, ws, rfl, ht, hb⟩ := b2
    refine .inr (.inr (.inl ⟨a, b, vs, ws, rfl, rfl, sqT_same res_le hs, sqT_same res_le ht, by rw [dpAll_len ha, dpAll_len hb]; exact small_line h.1, fun e => ?_, fun e2 => ?_, fun p o ho hp => ?_⟩))
    · subst e
      cases ha
      refine q _ _ H h.2 .refl ?_
      exact .tup (sqT_of_mut r ht) hb
    · subst e2
      cases hb
      refine q _ _ H (by simpa using h.2) .refl ?_
      exact .tup (sqT_of_mut r hs) ha
    · exact q _ _ _ h.2 (.new hp) (.tup (.inl (.inr ⟨o, res_put (r.notOwn hp) upd_same ho⟩)) (dpAll_after (.new hp) (dpAll_append ha hb)))
def fInt (P : Int → Int → Prop) (f : Int → Int → Int) : D → D → (D → Prop) → Prop
  | .int i, .int j, C => P i j ∧ C (.int (f i j))
  | _, _, _ => False
theorem fInt_ok {P P' : Int → Int → Prop} {f : Int → Int → Int} (hp : ∀ i j, P i j → P' i j) : Op2 X (rI P' fun i j => .int (f i j)) (fInt P f) := fun τ H0 H γ σ ρ v1 v2 d1 d2 C r b1 b2 h Q q => by
  cases d1 <;> cases d2 <;> first | exact h.elim | skip
  cases b1; cases b2
  exact ⟨_, _, rfl, rfl, hp _ _ h.1, q _ _ H h.2 .refl (.int _)⟩
def fSub : D → D → (D → Prop) → Prop
  | .int i, .int j, C => C (.int (i - j))
  | _, _, _ => False
theorem fSub_ok : Op2 X (rI0 fun i j => .int (i - j)) fSub := fun τ H0 H γ σ ρ v1 v2 d1 d2 C r b1 b2 h Q q => by
  cases d1 <;> cases d2 <;> first | exact h.elim | skip
  cases b1; cases b2
  exact ⟨_, _, rfl, rfl, q _ _ H h .refl (.int _)⟩
abbrev fMul := fInt CMul fun i j => i * j
abbrev fDiv := fInt CDiv fun i j => i / j
abbrev fMod := fInt (fun _ j => 0 < j) fun i j => i % j
abbrev fPow := fInt CPow fun i j => i ^ j.toNat
theorem jd_add (ha : JV τ X a t) (hb : JV τ X b u) : JD τ X (.BinOp a .Add b pos) (d2 fAdd t u) := jd_op op_addU fAdd_ok ha hb
theorem jd_sub (ha : JV τ X a t) (hb : JV τ X b u) : JD τ X (.BinOp a .Sub b pos) (d2 fSub t u) := jd_op op_sub fSub_ok ha hb
theorem jd_mul (ha : JV τ X a t) (hb : JV τ X b u) : JD τ X (.BinOp a .Mult b pos) (d2 fMul t u) := jd_op op_mul (fInt_ok fun _ _ h => h) ha hb
theorem jd_div (ha : JV τ X a t) (hb : JV τ X b u) : JD τ X (.BinOp a .FloorDiv b pos) (d2 fDiv t u) := jd_op op_fdiv (fInt_ok fun _ _ h => h) ha hb
theorem jd_mod (ha : JV τ X a t) (hb : JV τ X b u) : JD τ X (.BinOp a .Mod b pos) (d2 fMod t u) := jd_op op_mod (fInt_ok fun _ _ h => h) ha hb
theorem jd_pow (ha : JV τ X a t) (hb : JV τ X b u) : JD τ X (.BinOp a .Pow b pos) (d2 fPow t u) := jd_op op_pow (fInt_ok fun _ _ h => h) ha hb
def fNeg : D → (D → Prop) → Prop
  | .int i, C => C (.int (-i))
  | _, _ => False
def d1 (f : D → (D → Prop) → Prop) (t : UV) : UV := fun ρ C => t ρ fun x => f x C
theorem jd_neg (ha : JV τ X a t) : JD τ X (.UnaryOp .USub a pos) (d1 fNeg t) := fun ρ C c H0 γ σ H r Q q =>
  wpE_of (pe_un un_neg pe_w) (ha ρ _ c H0 γ σ H r _ fun d v H2 c e b => by
    cases d <;> first | exact c.elim | skip
    cases b
    exact ⟨_, rfl, q _ _ H2 c e (.int _)⟩)
/-! ### comparisons -/
def Cm2 (X : Cx) (r : R2) (f : D → D → (Bool → Prop) → Prop) : Prop := ∀ (τ : Tn) (H0 H : Hp) (γ : List (V × D)) (σ : St) (ρ : En) (v1 v2 : V) (d1 d2 : D) (C : Bool → Prop), Rep X.K τ H0 γ H σ ρ →
  Bo X.K τ H (res H (own τ σ ρ)) v1 d1 → Bo X.K τ H (res H (own τ σ ρ)) v2 d2 → f d1 d2 C → ∀ Q : VK, (∀ z, C z → Q (.bl z) H) → r v1 v2 H Q
def b2 (f : D → D → (Bool → Prop) → Prop) (t u : UV) : UT := fun ρ C => t ρ fun x => u ρ fun y => f x y C
def dB (t : UT) : UV := fun ρ C => t ρ fun z => C (.bool z)
theorem jd_cmp {op : CmpOp} {r : R2} {f : D → D → (Bool → Prop) → Prop} (ho : OpR X (compareOp op) r) (hf : Cm2 X r f) (ha : JV τ X a t) (hb : JV τ X b u) (hm : behindInMarks op b = false) : JD τ X (.Compare a [op] [b] pos) (dB (b2 f t u)) := fun ρ C c H0 γ σ H r Q q =>
  wpE_of (pe_cmpR ho pe_w pe_w hm) (ha ρ _ c H0 γ σ H r _ fun d1 v1 H2 c e b1 => hb ρ _ c H0 γ σ H2 (r.after e) _ fun d2 v2 H3 c e2 b2 =>
    hf _ _ _ _ _ _ _ _ _ _ _ ((r.after e).after e2) (b1.after e2) b2 c Q fun z c => q _ _ H3 c (e.trans e2) (.bl z))
theorem jt_cmp {op : CmpOp} {r : R2} {f : D → D → (Bool → Prop) → Prop} (ho : OpR X (compareOp op) r) (hf : Cm2 X r f) (ha : JV τ X a t) (hb : JV τ X b u) (hm : behindInMarks op b = false) : JT τ X (.Compare a [op] [b] pos) (b2 f t u) := fun ρ C c H0 γ σ H r Q q =>
  wpT_of (pt_cmpR ho pe_w pe_w hm) (ha ρ _ c H0 γ σ H r _ fun d1 v1 H2 c e b1 => hb ρ _ c H0 γ σ H2 (r.after e) _ fun d2 v2 H3 c e2 b2 =>
    hf _ _ _ _ _ _ _ _ _ _ _ ((r.after e).after e2) (b1.after e2) b2 c _ fun z c => ⟨z, rfl, q z H3 c (e.trans e2)⟩)
def b3 (f g : D → D → (Bool → Prop) → Prop) (t u s : UV) : UT := fun ρ C => t ρ fun x => u ρ fun y => f x y fun z => (z = true → s ρ fun w => g y w C) ∧ (z = false → C false)
theorem jd_chain {op op' : CmpOp} {r r' : R2} {f g : D → D → (Bool → Prop) → Prop} (ho : OpR X (compareOp op) r) (ho' : OpR X (compareOp op') r') (hf : Cm2 X r f) (hg : Cm2 X r' g) (ha : JV τ X a t) (hb : JV τ X b u) (hc : JV τ X c s)
    (hm : lastMarks [op, op'] [b, c] = false := by with_unfolding_all rfl) : JD τ X (.Compare a [op, op'] [b, c] pos) (dB (b3 f g t u s)) := fun ρ C c H0 γ σ H r Q q =>
  wpE_of (pe_chain ho ho' pe_w pe_w pe_w hm) (ha ρ _ c H0 γ σ H r _ fun d1 v1 H2 c e b1 => hb ρ _ c H0 γ σ H2 (r.after e) _ fun d2 v2 H3 c e2 b2 =>
    hf _ _ _ _ _ _ _ _ _ _ _ ((r.after e).after e2) (b1.after e2) b2 c _ fun z c => ⟨z, rfl, by
      cases z with
      | true => exact iteT (hc ρ _ (c.1 rfl) H0 γ σ H3 ((r.after e).after e2) _ fun d3 v3 H4 c e3 b3 => hg _ _ _ _ _ _ _ _ _ _ _ (((r.after e).after e2).after e3) (b2.after e3) b3 c Q fun z c => q _ _ H4 c ((e.trans e2).trans e3) (.bl z))
      | false => exact iteF (q _ _ H3 (c.2 rfl) (e.trans e2) (.bl false))⟩)
theorem jt_chain {op op' : CmpOp} {r r' : R2} {f g : D → D → (Bool → Prop) → Prop} (ho : OpR X (compareOp op) r) (ho' : OpR X (compareOp op') r') (hf : Cm2 X r f) (hg : Cm2 X r' g) (ha : JV τ X a t) (hb : JV τ X b u) (hc : JV τ X c s)
    (hm : lastMarks [op, op'] [b, c] = false := by with_unfolding_all rfl) : JT τ X (.Compare a [op, op'] [b, c] pos) (b3 f g t u s) := fun ρ C c H0 γ σ H r Q q =>
  wpT_of (pt_chain ho ho' pe_w pe_w pe_w hm) (ha ρ _ c H0 γ σ H r _ fun d1 v1 H2 c e b1 => hb ρ _ c H0 γ σ H2 (r.after e) _ fun d2 v2 H3 c e2 b2 =>
    hf _ _ _ _ _ _ _ _ _ _ _ ((r.after e).after e2) (b1.after e2) b2 c _ fun z c => ⟨z, rfl, by
      cases z with
      | true => exact iteT (hc ρ _ (c.1 rfl) H0 γ σ H3 ((r.after e).after e2) _ fun d3 v3 H4 c e3 b3 => hg _ _ _ _ _ _ _ _ _ _ _ (((r.after e).after e2).after e3) (b2.after e3) b3 c _ fun z c => ⟨z, rfl, q z H4 c ((e.trans e2).trans e3)⟩)
      | false => exact iteF ⟨false, rfl, q _ H3 (c.2 rfl) (e.trans e2)⟩⟩)
def fEq (neg : Bool) : D → D → (Bool → Prop) → Prop := fun x y C => sh 32 x = true ∧ sh 32 y = true ∧ C (if neg then !PyData.eqv x y else PyData.eqv x y)
theorem res_ad_le {H : Hp} : Same (res H τ.ad) H := res_le
theorem fEq_ok : Cm2 X (rEqD X.K) (fEq false) := fun τ H0 H γ σ ρ v1 v2 d1 d2 C r b1 b2 h Q q =>
  ⟨d1, d2, dp_same res_le _ _ (b1.dp res_own_ad), dp_same res_le _ _ (b2.dp res_own_ad), sh_shaped (by decide) h.1, sh_shaped (by decide) h.2.1, q _ h.2.2⟩
theorem fNe_ok : Cm2 X (rNeD X.K) (fEq true) := fun τ H0 H γ σ ρ v1 v2 d1 d2 C r b1 b2 h Q q =>
  ⟨d1, d2, dp_same res_le _ _ (b1.dp res_own_ad), dp_same res_le _ _ (b2.dp res_own_ad), sh_shaped (by decide) h.1, sh_shaped (by decide) h.2.1, q _ h.2.2⟩
/-- ints | tuples of ints -/
def intsOf : List D → Option (List Int)
  | [] => some []
  | .int i :: ds => (intsOf ds).map (i :: ·)
  | _ :: _ => none
theorem intsOf_dp {K : PySem.W.Frag} {H : Hp} : ∀ {ds : List D} {ns : List Int} {vs : List V}, intsOf ds = some ns → DpAll K H vs ds → vs = ns.map V.int
  | [], ns, vs, h, a => by
    cases a
    cases h
    rfl
  | .int i :: ds, ns, _, h, .cons h1 h2 => by
    simp only [intsOf, Option.map_eq_some_iff] at h
    obtain ⟨ms, e, rfl⟩ := h
    cases h1
    rw [intsOf_dp e h2]
    rfl
  | .none :: _, _, _, h, _ => by simp [intsOf] at h
  | .bool _ :: _, _, _, h, _ => by simp [intsOf] at h
  | .str _ :: _, _, _, h, _ => by simp [intsOf] at h
  | .list _ :: _, _, _, h, _ => by simp [intsOf] at h
  | .tuple _ :: _, _, _, h, _ => by simp [intsOf] at h
  | .dict _ :: _, _, _, h, _ => by simp [intsOf] at h
def fLt : D → D → (Bool → Prop) → Prop
  | .int i, .int j, C => C (decide (i < j))
  | .str x, .str y, C => C (decide (x.cps.toList < y.cps.toList))
  | .tuple xs, .tuple ys, C => ∃ ns ms, intsOf xs = some ns ∧ intsOf ys = some ms ∧ C (HT.lexLt ns ms)
  | _, _, _ => False
def rLtU (K : PySem.W.Frag) : R2 := fun x y H Q => rI0 (fun i j => .bl (decide (i < j))) x y H Q ∨ (∃ i j, x = .str i ∧ y = .str j ∧ Q (.bl (decide (i.cps.toList < j.cps.toList))) H) ∨ rLtT K x y H Q
theorem op_ltU (S : Ok cp G N sc k X) : OpR X (compareOp .Lt) (rLtU X.K) := op_lt.or (op_lt_str.or (op_ltT S.room.units0))
theorem fLt_ok : Cm2 X (rLtU X.K) fLt := fun τ H0 H γ σ ρ v1 v2 d1 d2 C r b1 b2 h Q q => by
  cases d1 <;> cases d2 <;> first | exact h.elim | skip
  · cases b1; cases b2
    exact .inl ⟨_, _, rfl, rfl, q _ h⟩
  · cases b1; cases b2
    exact .inr (.inl ⟨_, _, rfl, rfl, q _ h⟩)
  · obtain ⟨a, vs, rfl, hs, ha⟩ := b1
    obtain ⟨b, ws, rfl, ht, hb⟩ := b2
    obtain ⟨ns, ms, h1, h2, h3⟩ := h
    have e1 := intsOf_dp h1 ha
    have e2 := intsOf_dp h2 hb
    subst e1 e2
    exact .inr (.inr ⟨a, b, ns, ms, rfl, rfl, sqT_same res_le hs, sqT_same res_le ht, q _ h3⟩)
def fOrd (f : Int → Int → Bool) : D → D → (Bool → Prop) → Prop
  | .int i, .int j, C => C (f i j)
  | _, _, _ => False
theorem fOrd_ok {f : Int → Int → Bool} : Cm2 X (rI0 fun i j => .bl (f i j)) (fOrd f) := fun τ H0 H γ σ ρ v1 v2 d1 d2 C r b1 b2 h Q q => by
  cases d1 <;> cases d2 <;> first | exact h.elim | skip
  cases b1; cases b2
  exact ⟨_, _, rfl, rfl, q _ h⟩
abbrev fLe := fOrd fun i j => decide (i ≤ j)
abbrev fGt := fOrd fun i j => decide (j < i)
abbrev fGe := fOrd fun i j => decide (j ≤ i)
/-! x > y of ints or of tuples of ints -/
theorem lexAt_gt : ∀ (ns ms pn pm : List Int), pn.length = pm.length →
    Ob.lexAt (fun j => decide ((pn ++ ns).getD j 0 = (pm ++ ms).getD j 0)) (fun j => decide ((pm ++ ms).getD j 0 < (pn ++ ns).getD j 0)) (decide (ms.length < ns.length)) pn.length (min ns.length ms.length) = HT.lexLt ms ns
  | [], [], pn, pm, h => rfl
  | [], m :: ms, pn, pm, h => by simp [Ob.lexAt, HT.lexLt]
  | n :: ns, [], pn, pm, h => by simp [Ob.lexAt, HT.lexLt]
  | n :: ns, m :: ms, pn, pm, h => by
    have ih := lexAt_gt ns ms (pn ++ [n]) (pm ++ [m]) (by simp [h])
    have e1 : (pn ++ n :: ns).getD pn.length 0 = n := by simp
    have e2 : (pm ++ m :: ms).getD pn.length 0 = m := by rw [h]; simp
    have e3 : decide ((m :: ms).length < (n :: ns).length) = decide (ms.length < ns.length) := by simp
    have e4 : min (n :: ns).length (m :: ms).length = min ns.length ms.length + 1 := by simp only [List.length_cons]; omega
    rw [e3, e4, Ob.lexAt_succ]
    simp only [e1, e2, decide_eq_true_eq]
    rw [HT.lexLt_cons]
    simp only [List.append_assoc, List.cons_append, List.nil_append, List.length_append, List.length_cons, List.length_nil] at ih
    by_cases e : n = m
    · rw [if_pos e, if_pos e.symm]
      exact ih
    · rw [if_neg e, if_neg fun z => e z.symm]
def rGtT (K : PySem.W.Frag) : R2 := fun x y H Q => ∃ (a b : Addr) (ns ms : List Int), x = .ref a ∧ y = .ref b ∧ SqT K H a (ns.map V.int) ∧ SqT K H b (ms.map V.int) ∧ Q (.bl (HT.lexLt ms ns)) H
theorem op_gtT (hu : X.A.units < cLine) : OpR X (compareOp .Gt) (rGtT X.K) := by
  intro pins s σ H x y v u Q I rx ry ⟨a, b, ns, ms, ex, ey, ha, hb, q⟩
  subst ex ey
  cases rx; cases ry
  obtain ⟨is1, w1, t1, _⟩ := I.tuple ha
  obtain ⟨is2, w2, t2, _⟩ := I.tuple hb
  have i1 : IntsAre is1 ns := Vals.ints w1
  have i2 : IntsAre is2 ms := Vals.ints w2
  have g1 : ∀ j (h : j < is1.toArray.size), ∃ t, is1.toArray[j] = .int (ns.getD j 0) t := fun j h => IntsAre.int_at i1 _ _ (by simp at h; simp [h])
  have g2 : ∀ j (h : j < is2.toArray.size), ∃ t, is2.toArray[j] = .int (ms.getD j 0) t := fun j h => IntsAre.int_at i2 _ _ (by simp at h; simp [h])
  have R := Ob.RcOp.tuples_gt (A := X.A) (s := s) (e := fun j => decide (ns.getD j 0 = ms.getD j 0)) (r := fun j => decide (ms.getD j 0 < ns.getD j 0)) t1 t2 hu
    (fun j h1 h2 => by
      obtain ⟨u1, f1⟩ := g1 j h1
      obtain ⟨u2, f2⟩ := g2 j h2
      rw [f1, f2, show decide (ns.getD j 0 = ms.getD j 0) = (ns.getD j 0 == ms.getD j 0) from (by rw [Bool.eq_iff_iff, beq_iff_eq, decide_eq_true_eq])]
      exact SeqAt.EqAt.int_int _ _ _ _)
    (fun j h1 h2 _ => by
      obtain ⟨u1, f1⟩ := g1 j h1
      obtain ⟨u2, f2⟩ := g2 j h2
      rw [f1, f2]
      exact Ob.RcOp.gt_int _ _ _ _)
  have l1 : is1.toArray.size = ns.length := by rw [List.size_toArray]; exact i1.length
  have l2 : is2.toArray.size = ms.length := by rw [List.size_toArray]; exact i2.length
  rw [l1, l2] at R
  have e := lexAt_gt ns ms [] [] rfl
  simp only [List.nil_append, List.length_nil] at e
  have e' : decide (ns.length > ms.length) = decide (ms.length < ns.length) := rfl
  rw [e', e] at R
  exact R X.prog X.w X.xe (EP X pins σ Q) ⟨.bl _, H, I, rfl, q⟩
def fGtU : D → D → (Bool → Prop) → Prop
  | .int i, .int j, C => C (decide (j < i))
  | .tuple xs, .tuple ys, C => ∃ ns ms, intsOf xs = some ns ∧ intsOf ys = some ms ∧ C (HT.lexLt ms ns)
  | _, _, _ => False
def rGtU (K : PySem.W.Frag) : R2 := fun x y H Q => rI0 (fun i j => .bl (decide (j < i))) x y H Q ∨ rGtT K x y H Q
theorem op_gtU (S : Ok cp G N sc k X) : OpR X (compareOp .Gt) (rGtU X.K) := op_gt.or (op_gtT S.room.units0)
theorem fGtU_ok : Cm2 X (rGtU X.K) fGtU := fun τ H0 H γ σ ρ v1 v2 d1 d2 C r b1 b2 h Q q => by
  cases d1 <;> cases d2 <;> first | exact h.elim | skip
  · cases b1; cases b2
    exact .inl ⟨_, _, rfl, rfl, q _ h⟩
  · obtain ⟨a, vs, rfl, hs, ha⟩ := b1
    obtain ⟨b, ws, rfl, ht, hb⟩ := b2
    obtain ⟨ns, ms, h1, h2, h3⟩ := h
    have e1 := intsOf_dp h1 ha
    have e2 := intsOf_dp h2 hb
    subst e1 e2
    exact .inr ⟨a, b, ns, ms, rfl, rfl, sqT_same res_le hs, sqT_same res_le ht, q _ h3⟩
def fIs (neg : Bool) : D → D → (Bool → Prop) → Prop
  | .none, .none, C => C (!neg)
  | .bool a, .bool b, C => C (if neg then !decide (a = b) else decide (a = b))
  | .dict _, .none, _ => False
  | .list _, .none, C => C neg
  | .tuple _, .none, C => C neg
  | .int _, .none, C => C neg
  | .str _, .none, C => C neg
  | .bool _, .none, C => C neg
  | _, _, _ => False
def rIsU : R2 := fun x y H Q => (y = .non ∧ Q (.bl (decide (x = .non))) H) ∨ ∃ a b, x = .bl a ∧ y = .bl b ∧ Q (.bl (decide (a = b))) H
def rIsnU : R2 := fun x y H Q => (y = .non ∧ Q (.bl (!decide (x = .non))) H) ∨ ∃ a b, x = .bl a ∧ y = .bl b ∧ Q (.bl (!decide (a = b))) H
theorem op_isU : OpR X (compareOp .Is) rIsU := op_isN.or op_is_bl
theorem op_isnU : OpR X (compareOp .IsNot) rIsnU := op_notN.or op_isnot_bl
theorem fIs_ok : Cm2 X rIsU (fIs false) := fun τ H0 H γ σ ρ v1 v2 d1 d2 C r b1 b2 h Q q => by
  cases d1 <;> cases d2 <;> first | exact h.elim | skip
  · cases b1; cases b2; exact .inl ⟨rfl, q _ h⟩
  · cases b1; cases b2; exact .inl ⟨rfl, q _ h⟩
  · cases b1; cases b2; exact .inr ⟨_, _, rfl, rfl, q _ h⟩
  · cases b1; cases b2; exact .inl ⟨rfl, q _ h⟩
  · cases b1; cases b2; exact .inl ⟨rfl, q _ h⟩
  · obtain ⟨a, vs, rfl, _⟩ := b1; cases b2; exact .inl ⟨rfl, q _ h⟩
  · obtain ⟨a, vs, rfl, _⟩ := b1; cases b2; exact .inl ⟨rfl, q _ h⟩
theorem fIsn_ok : Cm2 X rIsnU (fIs true) := fun τ H0 H γ σ ρ v1 v2 d1 d2 C r b1 b2 h Q q => by
  cases d1 <;> cases d2 <;> first | exact h.elim | skip
  · cases b1; cases b2; exact .inl ⟨rfl, q _ h⟩
  · cases b1; cases b2; exact .inl ⟨rfl, q _ h⟩
  · cases b1; cases b2; exact .inr ⟨_, _, rfl, rfl, q _ h⟩
  · cases b1; cases b2; exact .inl ⟨rfl, q _ h⟩
  · cases b1; cases b2; exact .inl ⟨rfl, q _ h⟩
  · obtain ⟨a, vs, rfl, _⟩ := b1; cases b2; exact .inl ⟨rfl, q _ h⟩
  · obtain ⟨a, vs, rfl, _⟩ := b1; cases b2; exact .inl ⟨rfl, q _ h⟩
/-! x in (a list or tuple of flat things) -/
def flatD : D → Bool
  | .none => true
  | .bool _ => true
  | .int _ => true
  | .str _ => true
  | _ => false
def fIn (neg : Bool) : D → D → (Bool → Prop) → Prop
  | x, .tuple ds, C => (flatD x = true ∧ ds.all flatD = true ∨ sh 32 x = true ∧ shAll 31 ds = true) ∧ C (if neg then !ds.any (fun y => PyData.eqv y x) else ds.any fun y => PyData.eqv y x)
  | x, .list ds, C => (flatD x = true ∧ ds.all flatD = true ∨ sh 32 x = true ∧ shAll 31 ds = true) ∧ C (if neg then !ds.any (fun y => PyData.eqv y x) else ds.any fun y => PyData.eqv y x)
  | .str x, .str z, C => ∃ c, x = ⟨#[c]⟩ ∧ C (if neg then !decide (c ∈ z.cps.toList) else decide (c ∈ z.cps.toList))
  | _, _, _ => False
/-- x in a list or tuple of data of any depth -/
def rInA (K : PySem.W.Frag) (neg : Bool) : R2 := fun x y H Q => ∃ d c ds, Dp K H x d ∧ Dp K H y c ∧ (c = .list ds ∨ c = .tuple ds) ∧ SeqAt.shaped d = true ∧ SeqAt.shaped c = true ∧ Q (.bl (if neg then !ds.any (fun z => PyData.eqv z d) else ds.any fun z => PyData.eqv z d)) H
/-- a sign in a text -/
def rInSg (neg : Bool) : R2 := fun x y H Q => ∃ (c : Nat) (z : Str), x = .str ⟨#[c]⟩ ∧ y = .str z ∧ Q (.bl (if neg then !decide (c ∈ z.cps.toList) else decide (c ∈ z.cps.toList))) H
def rInU (K : PySem.W.Frag) (neg : Bool) : R2 := fun x y H Q => rIn K neg x y H Q ∨ rInA K neg x y H Q ∨ rInSg neg x y H Q
theorem op_inA (hu : X.A.units + 65 < cLine) : OpR X (compareOp .In) (rInA X.K false) := by
  intro pins s σ H x y v u Q I rx ry h
  obtain ⟨d, c, ds, hd, he, hc, sd, se, q⟩ := h
  obtain ⟨as, r1⟩ := Dp.reads I d x v hd rx
  obtain ⟨bs, r2⟩ := Dp.reads I c y u he ry
  rcases hc with rfl | rfl
  · exact SeqAt.in_list_reads r2 r1 (SeqAt.canLay_of_shaped se) (SeqAt.canLay_of_shaped sd) (room_in_shaped sd hu) ⟨.bl _, H, I, rfl, q⟩
  · exact SeqAt.in_tuple_reads r2 r1 (SeqAt.canLay_of_shaped se) (SeqAt.canLay_of_shaped sd) (room_in_shaped sd hu) ⟨.bl _, H, I, rfl, q⟩
theorem op_notInA (hu : X.A.units + 65 < cLine) : OpR X (compareOp .NotIn) (rInA X.K true) := by
  intro pins s σ H x y v u Q I rx ry h
  obtain ⟨d, c, ds, hd, he, hc, sd, se, q⟩ := h
  obtain ⟨as, r1⟩ := Dp.reads I d x v hd rx
  obtain ⟨bs, r2⟩ := Dp.reads I c y u he ry
  rcases hc with rfl | rfl
  · exact SeqAt.notIn_list_reads r2 r1 (SeqAt.canLay_of_shaped se) (SeqAt.canLay_of_shaped sd) (room_in_shaped sd hu) ⟨.bl _, H, I, rfl, q⟩
  · exact SeqAt.notIn_tuple_reads r2 r1 (SeqAt.canLay_of_shaped se) (SeqAt.canLay_of_shaped sd) (room_in_shaped sd hu) ⟨.bl _, H, I, rfl, q⟩
theorem op_inU (hu : X.A.units + 65 < cLine) : OpR X (compareOp .In) (rInU X.K false) := op_in_seq.or ((op_inA hu).or (r := rInA X.K false) op_in_sign)
theorem op_notInU (hu : X.A.units + 65 < cLine) : OpR X (compareOp .NotIn) (rInU X.K true) := op_notIn_seq.or ((op_notInA hu).or (r := rInA X.K true) op_notIn_sign)
theorem flat_dp {K : PySem.W.Frag} {H : Hp} {v : V} {d : D} (f : flatD d = true) (h : Dp K H v d) : flatV v = true := by
  cases h <;> first | rfl | (simp [flatD] at f)
theorem flat_bo {K : PySem.W.Frag} {τ : Tn} {H R : Hp} {v : V} {d : D} (f : flatD d = true) (h : Bo K τ H R v d) : Dp K R v d := by
  cases d <;> first | (simp [flatD] at f; done) | skip
  · cases h; exact .non
  · cases h; exact .bl _
  · cases h; exact .int _
  · cases h; exact .str _
theorem eqV_dp {K : PySem.W.Frag} {H H' : Hp} {v w : V} {d e : D} (fd : flatD d = true) (fe : flatD e = true) (h : Dp K H v d) (g : Dp K H' w e) : eqV v w = PyData.eqv d e := by
  cases h <;> cases g <;> first | (simp [flatD] at fd; done) | (simp [flatD] at fe; done) | (simp [eqV, PyData.eqv]; done) | (simp [eqV, PyData.eqv]; split <;> simp_all)
theorem all_flat {K : PySem.W.Frag} {H : Hp} : ∀ {vs : List V} {ds : List D}, ds.all flatD = true → DpAll K H vs ds → vs.all flatV = true
  | _, [], _, .nil => rfl
  | _, d :: ds, f, .cons h1 h2 => by
    simp only [List.all_cons, Bool.and_eq_true] at f ⊢
    exact ⟨flat_dp f.1 h1, all_flat f.2 h2⟩
theorem any_flat {K : PySem.W.Frag} {H H' : Hp} {w : V} {x : D} (fx : flatD x = true) (g : Dp K H' w x) : ∀ {vs : List V} {ds : List D}, ds.all flatD = true → DpAll K H vs ds → inV w vs = ds.any fun y => PyData.eqv y x
  | _, [], _, .nil => rfl
  | _, d :: ds, f, .cons h1 h2 => by
    simp only [List.all_cons, Bool.and_eq_true] at f
    have ih := any_flat fx g f.2 h2
    unfold inV at ih ⊢
    rw [List.any_cons, List.any_cons, ih, eqV_dp f.1 fx h1 g]
theorem fIn_ok {neg : Bool} : Cm2 X (rInU X.K neg) (fIn neg) := fun τ H0 H γ σ ρ v1 v2 d1 d2 C r b1 b2 h Q q => by
  cases d2 with
  | tuple ds =>
    obtain ⟨h1 | h1, h3⟩ := h
    · obtain ⟨a, vs, rfl, hs, ha⟩ := b2
      have g := flat_bo h1.1 b1
      refine .inl ⟨a, vs, rfl, .inr (sqT_same res_le hs), flat_dp h1.1 g, all_flat h1.2 ha, ?_⟩
      rw [any_flat h1.1 g h1.2 ha]
      exact q _ h3
    · exact .inr (.inl ⟨d1, _, ds, dp_same res_le _ _ (b1.dp res_own_ad), dp_same res_le _ _ (b2.dp res_own_ad), .inr rfl, sh_shaped (by decide) h1.1, sh_shaped (n := 32) (by decide) (by show shAll 31 ds = true; exact h1.2), q _ h3⟩)
  | list ds =>
    obtain ⟨h1 | h1, h3⟩ := h
    · obtain ⟨a, vs, rfl, hs, ha⟩ := b2
      have g := flat_bo h1.1 b1
      refine .inl ⟨a, vs, rfl, .inl (sqL_same res_le hs), flat_dp h1.1 g, all_flat h1.2 ha, ?_⟩
      rw [any_flat h1.1 g h1.2 ha]
      exact q _ h3
    · exact .inr (.inl ⟨d1, _, ds, dp_same res_le _ _ (b1.dp res_own_ad), dp_same res_le _ _ (b2.dp res_own_ad), .inl rfl, sh_shaped (by decide) h1.1, sh_shaped (n := 32) (by decide) (by show shAll 31 ds = true; exact h1.2), q _ h3⟩)
  | none => exact h.elim
  | bool _ => exact h.elim
  | int _ => exact h.elim
  | str z =>
    cases d1 <;> first | exact h.elim | skip
    obtain ⟨c, rfl, h3⟩ := h
    cases b1; cases b2
    exact .inr (.inr ⟨c, z, rfl, rfl, q _ h3⟩)
  | dict _ => exact h.elim
end
end Pu
namespace Pu
open PySem PySem.Spec PyProof.Rows L2
section
variable {τ : Tn} {G : Gx} {cp : List Str} {N : List Str} {sc : Scope} {k : Nat} {X : Cx} {a b c : Expr} {es rest : List Expr} {t u s : UV} {te ue : UE} {tt tu : UT} {pos : Pos}
/-! ### truth, and, or, not, if -/
def fTru : D → (Bool → Prop) → Prop
  | .none, C => C false
  | .bool b, C => C b
  | .int i, C => C (i != 0)
  | .str x, C => x.length ≤ 1000000 ∧ C ((x.length : Int) != 0)
  | .list ds, C => C (!ds.isEmpty)
  | .tuple ds, C => C (!ds.isEmpty)
  | .dict _, _ => False
def bTru (t : UV) : UT := fun ρ C => t ρ fun d => fTru d C
theorem empty_dp {K : PySem.W.Frag} {H : Hp} {vs : List V} {ds : List D} (h : DpAll K H vs ds) : vs.isEmpty = ds.isEmpty := by
  cases h <;> rfl
theorem jt_tru (ha : JV τ X a t) (he : ∀ whole, isTrue a X.env whole = (do let v ← whole; standAt a.pos; holding [v] (truthy v)) := by intro _; rfl) : JT τ X a (bTru t) := fun ρ C c H0 γ σ H r Q q =>
  wpT_of (pt_truth pe_w he) (ha ρ _ c H0 γ σ H r _ fun d v H2 c e b => by
    cases d with
    | none => cases b; exact ⟨_, rfl, q _ H2 c e⟩
    | bool _ => cases b; exact ⟨_, rfl, q _ H2 c e⟩
    | int _ => cases b; exact ⟨_, rfl, q _ H2 c e⟩
    | str _ => cases b; exact ⟨_, ⟨small_line c.1, rfl⟩, q _ H2 c.2 e⟩
    | list ds =>
      obtain ⟨p, vs, rfl, hs, ha⟩ := b
      exact ⟨_, .inl ⟨vs, sqL_same res_le hs, rfl⟩, q _ H2 (by rw [empty_dp ha]; exact c) e⟩
    | tuple ds =>
      obtain ⟨p, vs, rfl, hs, ha⟩ := b
      exact ⟨_, .inr (.inl ⟨vs, sqT_same res_le hs, rfl⟩), q _ H2 (by rw [empty_dp ha]; exact c) e⟩
    | dict _ => exact c.elim)
def bAnd (t u : UT) : UT := fun ρ C => t ρ fun z => (z = true → u ρ C) ∧ (z = false → C false)
def bOr (t u : UT) : UT := fun ρ C => t ρ fun z => (z = true → C true) ∧ (z = false → u ρ C)
def bNot (t : UT) : UT := fun ρ C => t ρ fun z => C (!z)
theorem jw_and1 (ha : JT τ X a tt) : JW τ X (.BoolOp .And [a] pos) tt := fun ρ C c H0 γ σ H r Q q => wpW_of (pw_and1 pt_w) (ha ρ C c H0 γ σ H r Q q)
theorem jw_or1 (ha : JT τ X a tt) : JW τ X (.BoolOp .Or [a] pos) tt := fun ρ C c H0 γ σ H r Q q => wpW_of (pw_or1 pt_w) (ha ρ C c H0 γ σ H r Q q)
theorem jw_and (ha : JT τ X a tt) (hb : JW τ X (.BoolOp .And (b :: rest) pos) tu) : JW τ X (.BoolOp .And (a :: b :: rest) pos) (bAnd tt tu) := fun ρ C c H0 γ σ H r Q q =>
  wpW_of (pw_and pt_w pw_w) (ha ρ _ c H0 γ σ H r _ fun z H2 c e => by
    cases z with
    | true => exact iteT (hb ρ C (c.1 rfl) H0 γ σ H2 (r.after e) Q fun b H3 c e2 => q b H3 c (e.trans e2))
    | false => exact iteF (q _ H2 (c.2 rfl) e))
theorem jw_or (ha : JT τ X a tt) (hb : JW τ X (.BoolOp .Or (b :: rest) pos) tu) : JW τ X (.BoolOp .Or (a :: b :: rest) pos) (bOr tt tu) := fun ρ C c H0 γ σ H r Q q =>
  wpW_of (pw_or pt_w pw_w) (ha ρ _ c H0 γ σ H r _ fun z H2 c e => by
    cases z with
    | true => exact iteT (q _ H2 (c.1 rfl) e)
    | false => exact iteF (hb ρ C (c.2 rfl) H0 γ σ H2 (r.after e) Q fun b H3 c e2 => q b H3 c (e.trans e2)))
theorem jt_w (h : JW τ X a tt) : JT τ X a tt := fun ρ C c H0 γ σ H r Q q => by
  unfold wpT
  exact fun pins s I => pw_w.run _ pins s σ H Q I (h ρ C c H0 γ σ H r Q q)
theorem jt_not (ha : JT τ X a tt) : JT τ X (.UnaryOp .Not a pos) (bNot tt) := fun ρ C c H0 γ σ H r Q q => wpT_of (pt_not pt_w) (ha ρ _ c H0 γ σ H r _ fun z H2 c e => q _ H2 c e)
/-- values that are truths -/
def fBoolK : D → (Bool → Prop) → Prop
  | .bool b, C => C b
  | _, _ => False
def dAnd (t u : UV) : UV := fun ρ C => t ρ fun d => fBoolK d fun z => (z = true → u ρ C) ∧ (z = false → C (.bool false))
def dOr (t u : UV) : UV := fun ρ C => t ρ fun d => fBoolK d fun z => (z = true → C (.bool true)) ∧ (z = false → u ρ C)
def dNot (t : UV) : UV := fun ρ C => t ρ fun d => fBoolK d fun z => C (.bool (!z))
theorem jd_one {op : BoolOp} (ha : JD τ X a t) : JD τ X (.BoolOp op [a] pos) t := fun ρ C c H0 γ σ H r Q q => wpE_of (pe_one pe_w) (ha ρ C c H0 γ σ H r Q q)
theorem jd_and (ha : JV τ X a t) (hb : JD τ X (.BoolOp .And (b :: rest) pos) u) : JD τ X (.BoolOp .And (a :: b :: rest) pos) (dAnd t u) := fun ρ C c H0 γ σ H r Q q =>
  wpE_of (pe_and pe_w pe_w) (ha ρ _ c H0 γ σ H r _ fun d v H2 c e bo => by
    cases d <;> first | exact c.elim | skip
    cases bo
    refine ⟨_, rfl, ?_⟩
    rename_i z
    cases z with
    | true => exact iteT (hb ρ C (c.1 rfl) H0 γ σ H2 (r.after e) Q fun d v H3 c e2 h => q d v H3 c (e.trans e2) h)
    | false => exact iteF (q _ _ H2 (c.2 rfl) e (.bl _)))
theorem jd_or (ha : JV τ X a t) (hb : JD τ X (.BoolOp .Or (b :: rest) pos) u) : JD τ X (.BoolOp .Or (a :: b :: rest) pos) (dOr t u) := fun ρ C c H0 γ σ H r Q q =>
  wpE_of (pe_or pe_w pe_w) (ha ρ _ c H0 γ σ H r _ fun d v H2 c e bo => by
    cases d <;> first | exact c.elim | skip
    cases bo
    refine ⟨_, rfl, ?_⟩
    rename_i z
    cases z with
    | true => exact iteT (q _ _ H2 (c.1 rfl) e (.bl _))
    | false => exact iteF (hb ρ C (c.2 rfl) H0 γ σ H2 (r.after e) Q fun d v H3 c e2 h => q d v H3 c (e.trans e2) h))
theorem jd_not (ha : JV τ X a t) : JD τ X (.UnaryOp .Not a pos) (dNot t) := fun ρ C c H0 γ σ H r Q q =>
  wpE_of (pe_not pe_w) (ha ρ _ c H0 γ σ H r _ fun d v H2 c e bo => by
    cases d <;> first | exact c.elim | skip
    cases bo
    exact ⟨_, rfl, q _ _ H2 c e (.bl _)⟩)
def eIf (tt : UT) (t u : UE) : UE := fun ρ C => tt ρ fun z => (z = true → t ρ C) ∧ (z = false → u ρ C)
theorem je_if (hc : JT τ X c tt) (ha : JE τ X a te) (hb : JE τ X b ue) : JE τ X (.IfExp c a b pos) (eIf tt te ue) := fun ρ C cc H0 γ σ H r Q q =>
  wpE_of (pe_ifExp pt_w pe_w pe_w) (hc ρ _ cc H0 γ σ H r _ fun z H2 c e => by
    have fin : ∀ rs v H3, C rs → Ext τ H2 H3 → RsOk X.K τ H2 H3 σ ρ v rs → Q v H3 := fun rs v H3 c e2 h => q rs v H3 c (e.trans e2) (by
      cases rs with
      | dat d => exact h
      | lst ds =>
        obtain ⟨p, vs, h1, h2, h3⟩ := h
        exact ⟨p, vs, h1, e.fresh r.inv h2, h3⟩
      | dic ds =>
        obtain ⟨p, vs, h1, h2, h3⟩ := h
        exact ⟨p, vs, h1, e.fresh r.inv h2, h3⟩
      | th x =>
        obtain ⟨p, vs, h1, h2, h3⟩ := h
        exact ⟨p, vs, h1, e.fresh r.inv h2, h3⟩
      | dll m =>
        obtain ⟨p, vs, h1, h2, h3, h4, h5⟩ := h
        exact ⟨p, vs, h1, e.fresh r.inv h2, h3, h4, fun q hq => let ⟨L, e1, ne, e2⟩ := h5 q hq; ⟨L, e1, ne, e.fresh r.inv e2⟩⟩)
    cases z with
    | true => exact iteT (ha ρ C (c.1 rfl) H0 γ σ H2 (r.after e) Q fin)
    | false => exact iteF (hb ρ C (c.2 rfl) H0 γ σ H2 (r.after e) Q fin))
def dIf (tt : UT) (t u : UV) : UV := fun ρ C => tt ρ fun z => (z = true → t ρ C) ∧ (z = false → u ρ C)
theorem jd_if (hc : JT τ X c tt) (ha : JD τ X a t) (hb : JD τ X b u) : JD τ X (.IfExp c a b pos) (dIf tt t u) := fun ρ C cc H0 γ σ H r Q q =>
  wpE_of (pe_ifExp pt_w pe_w pe_w) (hc ρ _ cc H0 γ σ H r _ fun z H2 c e => by
    cases z with
    | true => exact iteT (ha ρ C (c.1 rfl) H0 γ σ H2 (r.after e) Q fun d v H3 c e2 h => q d v H3 c (e.trans e2) h)
    | false => exact iteF (hb ρ C (c.2 rfl) H0 γ σ H2 (r.after e) Q fun d v H3 c e2 h => q d v H3 c (e.trans e2) h))
/-! ### items, slices -/
def fIx : D → D → (D → Prop) → Prop
  | .list ds, .int i, C => ∃ d, atI ds i = some d ∧ C d
  | .tuple ds, .int i, C => ∃ d, atI ds i = some d ∧ C d
  | .str x, .int i, C => x.length ≤ 1000000 ∧ ∃ c, atI x.cps.toList i = some c ∧ C (.str ⟨#[c]⟩)
  | _, _, _ => False
theorem atI_dp {K : PySem.W.Frag} {H : Hp} {vs : List V} {ds : List D} {i : Int} {d : D} (h : DpAll K H vs ds) (e : atI ds i = some d) : ∃ v, atI vs i = some v ∧ Dp K H v d := by
  unfold atI at e ⊢
  rw [dpAll_len h]
  cases q : ixN ds.length i with
  | none => rw [q] at e; cases e
  | some j =>
    rw [q] at e
    obtain ⟨v, e1, e2⟩ := dpAll_get h (show ds[j]? = some d from e)
    exact ⟨v, e1, e2⟩
theorem jd_ix (ha : JV τ X a t) (hb : JV τ X b u) (hs : PlainIx b := by exact fun _ _ => rfl) : JD τ X (.Subscript a b pos) (d2 fIx t u) := fun ρ C c H0 γ σ H r Q q =>
  wpE_of (pe_ix ix_seq pe_w pe_w hs) (ha ρ _ c H0 γ σ H r _ fun d1 v1 H2 c e b1 => hb ρ _ c H0 γ σ H2 (r.after e) _ fun d2 v2 H3 c e2 b2 => by
    have b1 := b1.after e2
    cases d1 with
    | list ds =>
      cases d2 <;> first | exact c.elim | skip
      cases b2
      obtain ⟨d, hd, c⟩ := c
      obtain ⟨p, vs, rfl, hs, ha⟩ := b1
      obtain ⟨v, hv, hdp⟩ := atI_dp ha hd
      exact .inl ⟨p, vs, _, v, rfl, rfl, sqL_same res_le hs, hv, q d v H3 c (e.trans e2) hdp⟩
    | tuple ds =>
      cases d2 <;> first | exact c.elim | skip
      cases b2
      obtain ⟨d, hd, c⟩ := c
      obtain ⟨p, vs, rfl, hs, ha⟩ := b1
      obtain ⟨v, hv, hdp⟩ := atI_dp ha hd
      exact .inr (.inl ⟨p, vs, _, v, rfl, rfl, sqT_same res_le hs, hv, q d v H3 c (e.trans e2) hdp⟩)
    | str x =>
      cases d2 <;> first | exact c.elim | skip
      cases b2
      cases b1
      obtain ⟨hl, d, hd, c⟩ := c
      exact .inr (.inr ⟨x, _, d, rfl, rfl, small_line hl, hd, q _ _ H3 c (e.trans e2) (.str _)⟩)
    | none => cases d2 <;> exact c.elim
    | bool _ => cases d2 <;> exact c.elim
    | int _ => cases d2 <;> exact c.elim
    | dict _ => cases d2 <;> exact c.elim)
abbrev UO := En → (Option Int → Prop) → Prop
def wpO (X : Cx) (e : Option Expr) : TO := fun σ H Q => ∀ t : TO, t σ H Q → True → True
def JO (τ : Tn) (X : Cx) (e : Option Expr) (t : UO) : Prop := ∃ to : TO, PO X e to ∧ ∀ (ρ : En) (C : Option Int → Prop), t ρ C → ∀ (H0 : Hp) (γ : List (V × D)) (σ : St) (H : Hp), Rep X.K τ H0 γ H σ ρ → ∀ Q : Option Int → Hp → Prop,
  (∀ o H2, C o → Ext τ H H2 → Q o H2) → to σ H Q
def oNone : UO := fun _ C => C none
def oSome (t : UV) : UO := fun ρ C => t ρ fun d => ∃ i, d = .int i ∧ C (some i)
theorem jo_none : JO τ X none oNone := ⟨_, po_none, fun ρ C c H0 γ σ H r Q q => q none H c .refl⟩
theorem jo_some (ha : JV τ X a t) : JO τ X (some a) (oSome t) := ⟨_, po_some pe_w, fun ρ C c H0 γ σ H r Q q => ha ρ _ c H0 γ σ H r _ fun d v H2 c e b => by
  obtain ⟨i, rfl, c⟩ := c
  cases b
  exact ⟨i, rfl, q _ H2 c e⟩⟩
def cut {α : Type} (xs : List α) (lo hi : Option Int) : List α := (xs.drop (HT.sIx xs.length 0 lo)).take (HT.sIx xs.length xs.length hi - HT.sIx xs.length 0 lo)
theorem cut_dp {K : PySem.W.Frag} {H : Hp} {vs : List V} {ds : List D} (lo hi : Option Int) (h : DpAll K H vs ds) : DpAll K H (cutV vs lo hi) (cut ds lo hi) := by
  unfold cutV cut
  rw [dpAll_len h]
  exact dpAll_take _ (dpAll_drop _ h)
def fCut : D → Option Int → Option Int → (Rs → Prop) → Prop
  | .list ds, lo, hi, C => C (.lst (cut ds lo hi))
  | .tuple ds, lo, hi, C => C (.dat (.tuple (cut ds lo hi)))
  | .str x, lo, hi, C => x.length ≤ 1000000 ∧ C (.dat (.str (cutS x lo hi)))
  | _, _, _, _ => False
def eCut (t : UV) (tl th : UO) : UE := fun ρ C => t ρ fun d => tl ρ fun l => th ρ fun h => fCut d l h C
/-- t[lo:hi], laid plainly; the whole of it is t itself -/
def rSlP (K : PySem.W.Frag) : V → Option Int → Option Int → Hp → VK → Prop := fun x lo hi H Q => ∃ a xs, x = .ref a ∧ SqT K H a xs ∧
  (HT.sIx xs.length 0 lo = 0 ∧ HT.sIx xs.length xs.length hi = xs.length → Q (.ref a) H) ∧ ∀ p o, o.dict = none → H p = none → Q (.ref p) (upd H p (.frz o (.tup (cutV xs lo hi))))
theorem sl_tupP : SlR X (rSlP X.K) := by
  intro pins s σ H x v vl vu lo hi sl Q I rx hs pl pu h
  obtain ⟨a, xs, rfl, hx, q1, q2⟩ := h
  cases rx
  obtain ⟨us, r, t1, hz⟩ := I.tuple hx
  have hl : us.toArray.size = xs.length := by rw [List.size_toArray]; exact r.length.symm
  refine ⟨"tuple", _, PyProof.Rows.slot_tuple_getitem.lookup, t1.typeIs, ?_⟩
  by_cases hw : HT.sIx xs.length 0 lo = 0 ∧ HT.sIx xs.length xs.length hi = xs.length
  · exact getItem_tuple_whole t1 hs pl pu (by rw [hl]; exact hw) ⟨.ref a, H, I, rfl, q1 hw⟩
  · refine HT.getItem_tuple_cut t1 hs pl pu (by rw [hl]; exact hw) ?_ (by rw [hl]; exact hz)
    rw [hl]
    have I2 := inv_plT (t' := s.toks) I (xs := cutV xs lo hi) (Nat.le_trans (cutV_length xs lo hi) hz) ((r.drop (HT.sIx xs.length 0 lo)).take (HT.sIx xs.length xs.length hi - HT.sIx xs.length 0 lo))
    exact ⟨.ref s.heap.objs.size, _, I2, rfl, q2 _ _ rfl (I.hok.fresh (Nat.le_refl _))⟩
def rSlU (K : PySem.W.Frag) : V → Option Int → Option Int → Hp → VK → Prop := fun x lo hi H Q => rSlL K x lo hi H Q ∨ rSlP K x lo hi H Q ∨ rSlS x lo hi H Q
theorem sl_U : SlR X (rSlU X.K) := sl_list.or (sl_tupP.or sl_str)
theorem cut_whole {α : Type} {xs : List α} {lo hi : Option Int} (h : HT.sIx xs.length 0 lo = 0 ∧ HT.sIx xs.length xs.length hi = xs.length) : cut xs lo hi = xs := by
  unfold cut
  rw [h.1, h.2]
  simp
theorem je_cut {lo hi : Option Expr} {tl th : UO} {p2 : Pos} (ha : JV τ X a t) (hl : JO τ X lo tl) (hh : JO τ X hi th) : JE τ X (.Subscript a (.Slice lo hi none p2) pos) (eCut t tl th) := by
  obtain ⟨tlo, pl, hl⟩ := hl
  obtain ⟨thi, ph, hh⟩ := hh
  intro ρ C c H0 γ σ H r Q q
  refine wpE_of (pe_slice sl_U pe_w pl ph) (ha ρ _ c H0 γ σ H r _ fun d v H2 c e b => hl ρ _ c H0 γ σ H2 (r.after e) _ fun l H3 c e2 => hh ρ _ c H0 γ σ H3 ((r.after e).after e2) _ fun h H4 c e3 => ?_)
  have b4 := (b.after e2).after e3
  have r4 := ((r.after e).after e2).after e3
  have e4 := (e.trans e2).trans e3
  cases d with
  | list ds =>
    obtain ⟨p, vs, rfl, hs, ha⟩ := b4
    refine .inl ⟨p, vs, rfl, sqL_same res_le hs, fun p' hp => q _ _ _ c (e4.trans (.new hp)) ⟨p', _, rfl, e4.fresh r.inv hp, upd_same, dpAll_same (res_mono fun a o n ea => ?_) _ _ (cut_dp l h ha)⟩⟩
    have hne : a ≠ p' := ne_of_none ea hp
    exact ⟨fun z => z.elim n hne, by rw [upd_ne hne]; exact ea⟩
  | tuple ds =>
    obtain ⟨p, vs, rfl, hs, ha⟩ := b4
    refine .inr (.inl ⟨p, vs, rfl, sqT_same res_le hs, fun hw => ?_, fun p' o ho hp => ?_⟩)
    · refine q _ _ _ c e4 ?_
      rw [dpAll_len ha] at hw
      rw [cut_whole hw]
      exact .tup (sqT_of_mut r4 hs) ha
    · exact q _ _ _ c (e4.trans (.new hp)) (.tup (.inl (.inr ⟨o, res_put (r4.notOwn hp) upd_same ho⟩)) (dpAll_after (.new hp) (cut_dp l h ha)))
  | str x =>
    cases b4
    exact .inr (.inr ⟨x, rfl, small_line c.1, q _ _ _ c.2 e4 (.str _)⟩)
  | none => exact c.elim
  | bool _ => exact c.elim
  | int _ => exact c.elim
  | dict _ => exact c.elim
end
end Pu
namespace Pu
open PySem PySem.Spec PyProof.Rows L2
/-! ### what a def is handed, what it hands back -/
inductive Ar where
  | dat (d : D)
  | town
  | th (x : Th)
def ArOk (K : PySem.W.Frag) (τ : Tn) (H : Hp) (v : V) : Ar → Prop
  | .dat d => Dp K (res H τ.ad) v d
  | .town => v = τ.val
  | .th x => ∃ a, v = .ref a ∧ ThAt K (res H τ.ad) a x
abbrev ArsOk (K : PySem.W.Frag) (τ : Tn) (H : Hp) : List V → List Ar → Prop := Paired (ArOk K τ H)
def Rs.lf : Rs → Bool
  | .dat d => Pu.lf d
  | .lst ds => lfAll ds
  | .dic kds => lfAll (kds.map (·.2))
  | .th x => x.lf
  | .dll m => m.all fun q => lfAll q.2
def RtV (K : PySem.W.Frag) (τ : Tn) (H0 H : Hp) (v : V) : Rs → Prop
  | .dat d => Dp K (res H τ.ad) v d
  | .lst ds => ∃ a vs, v = .ref a ∧ H0 a = none ∧ H a = some (.lst vs) ∧ DpAll K (res H (fun b => τ.ad b ∨ b = a)) vs ds
  | .dic kds => ∃ a kvs, v = .ref a ∧ H0 a = none ∧ H a = some (.dK kvs) ∧ KvOk K (res H (fun b => τ.ad b ∨ b = a)) kvs kds
  | .th x => ∃ a o, v = .ref a ∧ H0 a = none ∧ H a = some o ∧ ThIs K (res H (fun b => τ.ad b ∨ b = a)) a o x
  | .dll m => ∃ a kvs, v = .ref a ∧ H0 a = none ∧ H a = some (.dK kvs) ∧ KvOk K (res H (fun b => τ.ad b ∨ b = a)) kvs (toK m) ∧ FrV H0 a kvs
abbrev Sf := List Ar → (Rs → Prop) → Prop
def spD (G : Gx) (τ : Tn) (S : Sf) : Sp := fun vs H Q _ => ∃ as C, ArsOk G.K τ H vs as ∧ τ.inv H ∧ S as C ∧ ∀ r v H', r.lf = true → C r → Ext τ H H' → RtV G.K τ H H' v r → Q v H'
/-- the def x keeps the word S -/
structure FnD (G : Gx) (τ : Tn) (k : Nat) (x : Str) (ps : List Str) (S : Sf) : Prop where
  ex : ∃ (f : Addr) (fd : FuncData), FnOk G.P G.w G.K G.mg G.base CX0 k f fd ps (spD G τ S) ∧ G.mg x = some (.ref f) ∧ PySem.W.keepIn G.K (.ref f) = true ∧ Binds G.K fd ps []
/-- the same, called with n values and the keywords ks -/
structure FnK (G : Gx) (τ : Tn) (k : Nat) (x : Str) (ps : List Str) (S : Sf) (n : Nat) (ks : List Str) (g : List Ar → List Ar → List Ar) : Prop where
  ex : ∃ (f : Addr) (fd : FuncData) (gU : List Value → List Value → List Value) (gV : List V → List V → List V), FnOk G.P G.w G.K G.mg G.base CX0 k f fd ps (spD G τ S) ∧ G.mg x = some (.ref f) ∧ PySem.W.keepIn G.K (.ref f) = true ∧ KBn G.K fd ps n ks gU gV ∧
    ∀ (K : PySem.W.Frag) (H : Hp) (vs zs : List V) (as bs : List Ar), ArsOk K τ H vs as → ArsOk K τ H zs bs → ArsOk K τ H (gV vs zs) (g as bs)
abbrev UA := En → (List Ar → Prop) → Prop
def JA (τ : Tn) (X : Cx) (es : List Expr) (t : UA) : Prop := ∀ (ρ : En) (C : List Ar → Prop), t ρ C → ∀ (H0 : Hp) (γ : List (V × D)) (σ : St) (H : Hp), Rep X.K τ H0 γ H σ ρ → ∀ Q : List V → Hp → Prop,
  (∀ as vs H2, C as → Ext τ H H2 → ArsOk X.K τ H2 vs as → vs.length = es.length → Q vs H2) → wpA X es σ H Q
@[irreducible] def wpK (X : Cx) (kws : List Keyword) : TA := fun σ H Q => ∀ (pos : Pos) (pins : List (Addr × Obj)) (s : Shared), Inv X pins σ H s → wpAny (model X.prog X.w) X.A (evalAll ((backToKw pos (keywordEach kws X.env)).map (·.2))) (AP X pins σ Q) X.xe s
theorem pk_w {X : Cx} {kws : List Keyword} : PK X kws (wpK X kws) := ⟨fun pos pins s _ _ _ I h => by unfold wpK at h; exact h pos pins s I⟩
theorem wpK_of {X : Cx} {kws : List Keyword} {t : TA} (h : PK X kws t) {σ : St} {H : Hp} {Q : List V → Hp → Prop} (q : t σ H Q) : wpK X kws σ H Q := by
  unfold wpK
  exact fun pos pins s I => h.run pos pins s σ H Q I q
def JK (τ : Tn) (X : Cx) (kws : List Keyword) (t : UA) : Prop := ∀ (ρ : En) (C : List Ar → Prop), t ρ C → ∀ (H0 : Hp) (γ : List (V × D)) (σ : St) (H : Hp), Rep X.K τ H0 γ H σ ρ → ∀ Q : List V → Hp → Prop,
  (∀ as vs H2, C as → Ext τ H H2 → ArsOk X.K τ H2 vs as → vs.length = kws.length → Q vs H2) → wpK X kws σ H Q
/-- several things looked at -/
def JVs (τ : Tn) (X : Cx) (es : List Expr) (t : UL) : Prop := ∀ (ρ : En) (C : List D → Prop), t ρ C → ∀ (H0 : Hp) (γ : List (V × D)) (σ : St) (H : Hp), Rep X.K τ H0 γ H σ ρ → ∀ Q : List V → Hp → Prop,
  (∀ ds vs H2, C ds → Ext τ H H2 → Paired (fun v d => Bo X.K τ H2 (res H2 (own τ σ ρ)) v d) vs ds → Q vs H2) → wpA X es σ H Q
section
variable {τ : Tn} {G : Gx} {cp : List Str} {N : List Str} {sc : Scope} {k j n : Nat} {X : Cx} {a b c e : Expr} {es rest : List Expr} {t u s : UV} {te ue : UE} {ta tk : UA} {pos p kpos : Pos} {x : Str} {ps ks : List Str} {S : Sf} {kws : List Keyword}
theorem arOk_after {K : PySem.W.Frag} {H H' : Hp} {v : V} {a : Ar} (e : Ext τ H H') (h : ArOk K τ H v a) : ArOk K τ H' v a := by
  cases a with
  | dat d => exact dp_same (res_ext e fun _ z => z) _ _ h
  | town => exact h
  | th x =>
    obtain ⟨a, h1, h2⟩ := h
    exact ⟨a, h1, h2.same (res_ext e fun _ z => z)⟩
theorem arsOk_after {K : PySem.W.Frag} {H H' : Hp} (e : Ext τ H H') : ∀ {vs : List V} {as : List Ar}, ArsOk K τ H vs as → ArsOk K τ H' vs as
  | _, _, .nil => .nil
  | _, _, .cons h t => .cons (arOk_after e h) (arsOk_after e t)
def aNil : UA := fun _ C => C []
def aCons (t : UV) (ts : UA) : UA := fun ρ C => t ρ fun d => ts ρ fun as => C (.dat d :: as)
def aTown (i : Nat) (ts : UA) : UA := fun ρ C => match ρ[i]? with
  | some .town => ts ρ fun as => C (.town :: as)
  | _ => False
theorem ja_nil : JA τ X [] aNil := fun ρ C c H0 γ σ H r Q q => wpA_of pa_nil (q [] [] H c .refl .nil rfl)
theorem ja_cons (h : JV τ X e t) (hs : JA τ X es ta) (hst : starEach (e :: es) X.env = (false, eval e X.env) :: starEach es X.env := by rfl) : JA τ X (e :: es) (aCons t ta) := fun ρ C c H0 γ σ H r Q q =>
  wpA_of (pa_cons pe_w pa_w hst) (h ρ _ c H0 γ σ H r _ fun d v H2 c e b => hs ρ _ c H0 γ σ H2 (r.after e) _ fun as vs H3 c e2 b2 hl => q (.dat d :: as) (v :: vs) H3 c (e.trans e2) (.cons (arOk_after e2 (b.dp res_own_ad)) b2) (by simp [hl]))
theorem ja_town (S : Ok cp G N sc k X) (i : Nat) (hs : JA τ X es ta) (hN : N[i]? = some x := by rfl) (hv : Vis sc x := by first | exact Or.inl rfl | exact Or.inr (Or.inl rfl) | exact Or.inr (Or.inr rfl)) (hd : (x == ("__debug__" : Str)) = false := by decide) (hcd : (x == ("__classdict__" : Str)) = false := by decide)
    (hst : starEach (.Name x pos :: es) X.env = (false, eval (.Name x pos) X.env) :: starEach es X.env := by rfl) : JA τ X (.Name x pos :: es) (aTown i ta) := fun ρ C c H0 γ σ H r Q q => by
  refine wpA_of (pa_cons (pe_var (i := i) (by rw [S.eN]; exact hN) (by rw [S.es]; exact hv) hd hcd) pa_w hst) ?_
  unfold aTown at c
  split at c
  · rename_i hi
    exact ⟨τ.val, r.sl i _ hi, hs ρ _ c H0 γ σ H r _ fun as vs H3 c e2 b2 hl => q (.town :: as) (τ.val :: vs) H3 c e2 (.cons rfl b2) (by simp [hl])⟩
  · exact c.elim
theorem jk_nil : JK τ X [] aNil := fun ρ C c H0 γ σ H r Q q => wpK_of pk_nil (q [] [] H c .refl .nil rfl)
theorem jk_cons {nm : Option Str} (h : JV τ X e t) (hs : JK τ X kws ta) : JK τ X (⟨nm, e, kpos⟩ :: kws) (aCons t ta) := fun ρ C c H0 γ σ H r Q q =>
  wpK_of (pk_cons pe_w pk_w) (h ρ _ c H0 γ σ H r _ fun d v H2 c e b => hs ρ _ c H0 γ σ H2 (r.after e) _ fun as vs H3 c e2 b2 hl => q (.dat d :: as) (v :: vs) H3 c (e.trans e2) (.cons (arOk_after e2 (b.dp res_own_ad)) b2) (by simp [hl]))
theorem jvs_nil : JVs τ X [] fun _ C => C [] := fun ρ C c H0 γ σ H r Q q => wpA_of pa_nil (q [] [] H c .refl .nil)
theorem bos_after {K : PySem.W.Frag} {H H' : Hp} {σ : St} {ρ : En} (e : Ext τ H H') : ∀ {vs : List V} {ds : List D}, Paired (fun v d => Bo K τ H (res H (own τ σ ρ)) v d) vs ds → Paired (fun v d => Bo K τ H' (res H' (own τ σ ρ)) v d) vs ds
  | _, _, .nil => .nil
  | _, _, .cons h t => .cons (h.after e) (bos_after e t)
theorem jvs_cons {ts : UL} (h : JV τ X e t) (hs : JVs τ X es ts) (hst : starEach (e :: es) X.env = (false, eval e X.env) :: starEach es X.env := by rfl) : JVs τ X (e :: es) (lCons t ts) := fun ρ C c H0 γ σ H r Q q =>
  wpA_of (pa_cons pe_w pa_w hst) (h ρ _ c H0 γ σ H r _ fun d v H2 c e b => hs ρ _ c H0 γ σ H2 (r.after e) _ fun ds vs H3 c e2 b2 => q (d :: ds) (v :: vs) H3 c (e.trans e2) (.cons (b.after e2) b2))
/-! ### a def's call -/
theorem dll_lf {K : PySem.W.Frag} {H : Hp} {n n' : Addr → Prop} : ∀ {kvs : List (Key × V)} {m : List (Key × List D)}, (m.all fun q => lfAll q.2) = true → KvOk K (res H n) kvs (toK m) → (∀ p ∈ kvs, ∃ L : Addr, p.2 = .ref L ∧ ¬ n' L) → (∀ (b : Addr) (u : HO), H b = some u → ¬ Mv u → ¬ n' b) → KvOk K (res H n') kvs (toK m)
  | [], [], _, _, _, _ => .nil
  | [], _ :: _, _, h, _, _ => by cases h
  | _ :: _, [], _, h, _, _ => by cases h
  | p :: kvs, q :: m, l, .cons h t, hf, nm => by
    rw [List.all_cons, Bool.and_eq_true] at l
    refine .cons ⟨h.1, ?_⟩ (dll_lf l.2 t (fun p hp => hf p (by simp [hp])) nm)
    obtain ⟨L, e, nL⟩ := hf p (by simp)
    have h2 := h.2
    rw [e] at h2 ⊢
    cases h2 with
    | lst hs ha =>
      refine .lst ?_ (dpAll_lf (fun b xs h => ?_) _ _ l.1 ha)
      · rcases hs with hs | hs
        · rcases hs with hs | ⟨o, hs⟩
          · exact .inl (.inl (res_put nL (res_at hs) (res_ok hs)))
          · exact .inl (.inr ⟨o, res_put nL (res_at hs) (res_ok hs)⟩)
        · exact .inr hs
      · rcases h with h | ⟨o, h⟩
        · exact .inl (res_put (nm b _ (res_at h) fun z => z) (res_at h) (res_ok h))
        · exact .inr ⟨o, res_put (nm b _ (res_at h) fun z => z) (res_at h) (res_ok h)⟩
theorem RtV.rs {H0 H1 H2 H' : Hp} {γ : List (V × D)} {σ : St} {ρ : En} {v : V} {r : Rs} (r0 : Rep X.K τ H0 γ H1 σ ρ) (e : Ext τ H1 H2) (e2 : Ext τ H2 H') (l : r.lf = true) (h : RtV X.K τ H2 H' v r) : RsOk X.K τ H1 H' σ ρ v r := by
  have r' := (r0.after e).after e2
  cases r with
  | dat d => exact r'.lfRes (fun a z => r'.ownMut z) res_le (fun _ _ => res_ok) l h
  | lst ds =>
    obtain ⟨a, vs, rfl, hn, he, ha⟩ := h
    refine ⟨a, vs, rfl, e.fresh r0.inv hn, he, ?_⟩
    exact dpAll_lf (fun b xs h => by
      have nm : ∀ u : HO, H' b = some u → ¬ Mv u → ¬ (own τ σ ρ b ∨ b = a) := fun u e n z => by
        rcases z with z | z
        · obtain ⟨o, e', m⟩ := r'.ownMut z
          rw [e] at e'; cases e'
          exact n m
        · rw [z, he] at e; cases e
          exact n trivial
      rcases h with h | ⟨o, h⟩
      · exact .inl (res_put (nm _ (res_at h) fun z => z) (res_at h) (res_ok h))
      · exact .inr ⟨o, res_put (nm _ (res_at h) fun z => z) (res_at h) (res_ok h)⟩) ds vs l ha
  | dic kds =>
    obtain ⟨a, kvs, rfl, hn, he, ha⟩ := h
    refine ⟨a, kvs, rfl, e.fresh r0.inv hn, he, ?_⟩
    have nm : ∀ (b : Addr) (u : HO), H' b = some u → ¬ Mv u → ¬ (own τ σ ρ b ∨ b = a) := fun b u e n z => by
      rcases z with z | z
      · obtain ⟨o, e', m⟩ := r'.ownMut z
        rw [e] at e'; cases e'
        exact n m
      · rw [z, he] at e; cases e
        exact n trivial
    have go : ∀ {kvs : List (Key × V)} {kds : List (Key × D)}, lfAll (kds.map (·.2)) = true → KvOk X.K (res H' (fun b => τ.ad b ∨ b = a)) kvs kds → KvOk X.K (res H' (fun b => own τ σ ρ b ∨ b = a)) kvs kds := by
      intro kvs kds l ha
      induction ha with
      | nil => exact .nil
      | cons h1 h2 ih =>
        simp only [List.map_cons, lfAll, Bool.and_eq_true] at l
        refine .cons ⟨h1.1, dp_lf (fun b xs h => ?_) _ _ l.1 h1.2⟩ (ih l.2)
        rcases h with h | ⟨o, h⟩
        · exact .inl (res_put (nm b _ (res_at h) fun z => z) (res_at h) (res_ok h))
        · exact .inr ⟨o, res_put (nm b _ (res_at h) fun z => z) (res_at h) (res_ok h)⟩
    exact go l ha
  | th x =>
    obtain ⟨a, o, rfl, hn, he, ha⟩ := h
    refine ⟨a, o, rfl, e.fresh r0.inv hn, he, ?_⟩
    obtain ⟨φ, rfl⟩ := ha.ext
    have nm : ∀ (b : Addr) (u : HO), H' b = some u → ¬ Mv u → ¬ (own τ σ ρ b ∨ b = a) := fun b u e n z => by
      rcases z with z | z
      · obtain ⟨o, e', m⟩ := r'.ownMut z
        rw [e] at e'; cases e'
        exact n m
      · rw [z, he] at e; cases e
        exact n trivial
    refine ThIs.lf (fun b xs h => ?_) l ha
    rcases h with h | ⟨o, h⟩
    · exact .inl (res_put (nm b _ (res_at h) fun z => z) (res_at h) (res_ok h))
    · exact .inr ⟨o, res_put (nm b _ (res_at h) fun z => z) (res_at h) (res_ok h)⟩
  | dll m =>
    obtain ⟨a, kvs, rfl, hn, he, ha, hf⟩ := h
    refine ⟨a, kvs, rfl, e.fresh r0.inv hn, he, dll_lf l ha (fun p hp => ?_) fun b u e n z => ?_, fun q hq => let ⟨L, e1, ne, e2⟩ := hf q hq; ⟨L, e1, ne, e.fresh r0.inv e2⟩⟩
    · obtain ⟨L, e1, ne, e2⟩ := hf p hp
      refine ⟨L, e1, fun z => ?_⟩
      rcases z with z | z
      · obtain ⟨o, e', m⟩ := (r0.after e).ownMut z
        rw [e2] at e'; cases e'
      · exact ne z
    · rcases z with z | z
      · obtain ⟨o, e', m⟩ := r'.ownMut z
        rw [e] at e'; cases e'
        exact n m
      · rw [z, he] at e; cases e
        exact n trivial
def eCall (S : Sf) (t : UA) : UE := fun ρ C => t ρ fun as => S as C
theorem je_call (O : Ok cp G N sc k X) (F : FnD G τ j x ps S) (ha : JA τ X (e :: es) ta) (hj : j ≤ k := by decide) (hg : sc.names.lookup x = some .globalImplicit := by rfl) (hdb : (x == ("__debug__" : Str)) = false := by decide)
    (he : starEach (e :: es) X.env = (false, eval e X.env) :: starEach es X.env := by rfl) (hpl : (backTo pos (starEach es X.env)).any (·.1) = false := by rfl) : JE τ X (.Call (.Name x p) (e :: es) [] pos) (eCall S ta) := by
  obtain ⟨f, fd, F, hm, hk, hb⟩ := F.ex
  intro ρ C c H0 γ σ H r Q q
  refine wpE_of (pe_call (CX := CX0) (k := j) (sp := spD G τ S) (E := E0) (dvs := []) (ds := []) (by rw [O.eP, O.ew, O.eK, O.em, O.eb]; exact F) (O.room.mono hj) (by show X.env.scope.names.lookup x = _; rw [O.es]; exact hg) (by rw [O.em]; exact hm) (by rw [O.eK]; exact hk) (by rw [O.eK]; exact hb) .nil pass0 pa_w hdb he hpl) ?_
  refine ha ρ _ c H0 γ σ H r _ fun as vs H2 c e1 h2 _ => ?_
  rw [List.append_nil]
  refine ⟨as, C, by rw [← O.eK]; exact h2, (r.after e1).inv, c, fun rs v H' l c e2 h => q rs v H' c (e1.trans e2) ?_⟩
  rw [← O.eK] at h
  exact RtV.rs r e1 e2 l h
theorem je_call0 (O : Ok cp G N sc k X) (F : FnD G τ j x ps S) (hj : j ≤ k := by decide) (hg : sc.names.lookup x = some .globalImplicit := by rfl) (hdb : (x == ("__debug__" : Str)) = false := by decide) : JE τ X (.Call (.Name x p) [] [] pos) (eCall S aNil) := by
  obtain ⟨f, fd, F, hm, hk, hb⟩ := F.ex
  intro ρ C c H0 γ σ H r Q q
  refine wpE_of (pe_call0 (CX := CX0) (k := j) (sp := spD G τ S) (E := E0) (dvs := []) (ds := []) (by rw [O.eP, O.ew, O.eK, O.em, O.eb]; exact F) (O.room.mono hj) (by show X.env.scope.names.lookup x = _; rw [O.es]; exact hg) (by rw [O.em]; exact hm) (by rw [O.eK]; exact hk) (by rw [O.eK]; exact hb) .nil pass0 hdb) ?_
  refine ⟨[], C, .nil, r.inv, c, fun rs v H' l c e2 h => q rs v H' c e2 ?_⟩
  rw [← O.eK] at h
  exact RtV.rs r .refl e2 l h
def eCallK (S : Sf) (g : List Ar → List Ar → List Ar) (t u : UA) : UE := fun ρ C => t ρ fun as => u ρ fun bs => S (g as bs) C
theorem je_callK {g : List Ar → List Ar → List Ar} (O : Ok cp G N sc k X) (F : FnK G τ j x ps S n ks g) (ha : JA τ X (e :: es) ta) (hkw : JK τ X kws tk) (hn : (e :: es).length = n := by rfl) (hn2 : kws.length = ks.length := by rfl) (hj : j ≤ k := by decide) (hg : sc.names.lookup x = some .globalImplicit := by rfl)
    (hall : (backToKw pos (keywordEach kws X.env)).all (·.1.isSome) = true := by rfl) (hks : (backToKw pos (keywordEach kws X.env)).filterMap (·.1) = ks := by rfl)
    (hdb : (x == ("__debug__" : Str)) = false := by decide) (he : starEach (e :: es) X.env = (false, eval e X.env) :: starEach es X.env := by rfl)
    (hpl : ((backTo pos (starEach (e :: es) X.env)).any (·.1) || (backToKw pos (keywordEach kws X.env)).any (·.1.isNone)) = false := by rfl) : JE τ X (.Call (.Name x p) (e :: es) kws pos) (eCallK S g ta tk) := by
  obtain ⟨f, fd, gU, gV, F, hm, hk, hb, hrel⟩ := F.ex
  intro ρ C c H0 γ σ H r Q q
  refine wpE_of (pe_callN (CX := CX0) (k := j) (sp := spD G τ S) (E := E0) (by rw [O.eP, O.ew, O.eK, O.em, O.eb]; exact F) (O.room.mono hj) (by show X.env.scope.names.lookup x = _; rw [O.es]; exact hg) (by rw [O.em]; exact hm) (by rw [O.eK]; exact hk) (by rw [O.eK]; exact hb) pass0 pa_w pk_w hall hks hdb he hpl) ?_
  refine ha ρ _ c H0 γ σ H r _ fun as vs H2 c e1 h2 l1 => hkw ρ _ c H0 γ σ H2 (r.after e1) _ fun bs zs H3 c e2 h3 l2 => ⟨l1.trans hn, l2.trans hn2, ?_⟩
  refine ⟨_, C, ?_, ((r.after e1).after e2).inv, c, fun rs v H' l c e3 h => q rs v H' c ((e1.trans e2).trans e3) ?_⟩
  · have h4 := hrel X.K H3 vs zs as bs (arsOk_after e2 h2) h3
    rw [O.eK] at h4
    exact h4
  · rw [← O.eK] at h
    exact RtV.rs r (e1.trans e2) e3 l h
/-! f(k = v, ..) with no place-wise value -/
def tCallN0 (m : Nat) (sp : Sp) (gV : List V → List V → List V) (E : XK) (tk : TA) : TE := fun σ H Q => tk σ H fun zs H2 => zs.length = m ∧ sp (gV [] zs) H2 Q E
theorem pe_callN0 {X : Cx} {CX : CXT} {k : Nat} {f : Addr} {fd : FuncData} {ps ks : List Str} {sp : Sp} {E : XK} {x : Str} {p pos : Pos} {kws : List Keyword} {tk : TA} {g : List Value → List Value → List Value} {gV : List V → List V → List V}
    (F : FnOk X.prog X.w X.K X.mg X.base CX k f fd ps sp) (hr : Room k X.A) (hg : Gl X x) (hm : X.mg x = some (.ref f)) (hk : PySem.W.keepIn X.K (.ref f) = true) (hb : KBn X.K fd ps 0 ks g gV) (hx : Passes CX X E)
    (hkw : PK X kws tk) (hall : (backToKw pos (keywordEach kws X.env)).all (·.1.isSome) = true := by rfl) (hks : (backToKw pos (keywordEach kws X.env)).filterMap (·.1) = ks := by rfl)
    (hdb : (x == ("__debug__" : Str)) = false := by decide)
    (hpl : ((backTo pos (starEach [] X.env)).any (·.1) || (backToKw pos (keywordEach kws X.env)).any (·.1.isNone)) = false := by rfl) :
    PE X (.Call (.Name x p) [] kws pos) (tCallN0 ks.length sp gV E tk) := by
  refine ⟨fun pins s σ H Q I h => ?_⟩
  refine wpAny_Call_Name_kw (ld_glob I hg hm ?_ hdb)
  refine PySem.W.callWith_KW0 (h₀ := X.base) I.ok.mod.kin hk hall ?_ hpl
  refine thn (hkw.run pos pins s σ H _ I h) fun ws s2 ⟨zs, H2, I2, rz, l2, q2⟩ => ⟨I2.kIn, ?_⟩
  rw [hks]
  exact run_fnN F hr hb hx I2 .nil rz rfl l2 q2
theorem je_callK0 {g : List Ar → List Ar → List Ar} (O : Ok cp G N sc k X) (F : FnK G τ j x ps S 0 ks g) (hkw : JK τ X kws tk) (hn2 : kws.length = ks.length := by rfl) (hj : j ≤ k := by decide) (hg : sc.names.lookup x = some .globalImplicit := by rfl)
    (hall : (backToKw pos (keywordEach kws X.env)).all (·.1.isSome) = true := by rfl) (hks : (backToKw pos (keywordEach kws X.env)).filterMap (·.1) = ks := by rfl)
    (hdb : (x == ("__debug__" : Str)) = false := by decide)
    (hpl : ((backTo pos (starEach [] X.env)).any (·.1) || (backToKw pos (keywordEach kws X.env)).any (·.1.isNone)) = false := by rfl) : JE τ X (.Call (.Name x p) [] kws pos) (eCallK S g aNil tk) := by
  obtain ⟨f, fd, gU, gV, F, hm, hk, hb, hrel⟩ := F.ex
  intro ρ C c H0 γ σ H r Q q
  refine wpE_of (pe_callN0 (CX := CX0) (k := j) (sp := spD G τ S) (E := E0) (by rw [O.eP, O.ew, O.eK, O.em, O.eb]; exact F) (O.room.mono hj) (by show X.env.scope.names.lookup x = _; rw [O.es]; exact hg) (by rw [O.em]; exact hm) (by rw [O.eK]; exact hk) (by rw [O.eK]; exact hb) pass0 pk_w hall hks hdb hpl) ?_
  refine hkw ρ _ c H0 γ σ H r _ fun bs zs H3 c e2 h3 l2 => ⟨l2.trans hn2, ?_⟩
  refine ⟨_, C, ?_, (r.after e2).inv, c, fun rs v H' l c e3 h => q rs v H' c (e2.trans e3) ?_⟩
  · have h4 := hrel X.K H3 [] zs [] bs .nil h3
    rw [O.eK] at h4
    exact h4
  · rw [← O.eK] at h
    exact RtV.rs r e2 e3 l h
/-! ### built-ins -/
def Cb (X : Cx) (r : List V → Hp → VK → Prop) (f : List D → (Rs → Prop) → Prop) : Prop := ∀ (τ : Tn) (H0 H : Hp) (γ : List (V × D)) (σ : St) (ρ : En) (vs : List V) (ds : List D) (C : Rs → Prop), Rep X.K τ H0 γ H σ ρ →
  Paired (fun v d => Bo X.K τ H (res H (own τ σ ρ)) v d) vs ds → f ds C → ∀ Q : VK, (∀ rs v H2, C rs → Ext τ H H2 → RsOk X.K τ H H2 σ ρ v rs → Q v H2) → r vs H Q
def eB (f : List D → (Rs → Prop) → Prop) (t : UL) : UE := fun ρ C => t ρ fun ds => f ds C
/-- the name x is the built-in's still -/
def Free (G : Gx) (x : Str) : Prop := G.mg x = none
theorem rs_back {H1 H2 H' : Hp} {H0 : Hp} {γ : List (V × D)} {σ : St} {ρ : En} {v : V} {r : Rs} (r0 : Rep X.K τ H0 γ H1 σ ρ) (e : Ext τ H1 H2) (h : RsOk X.K τ H2 H' σ ρ v r) : RsOk X.K τ H1 H' σ ρ v r := by
  cases r with
  | dat d => exact h
  | lst ds =>
    obtain ⟨p, vs, h1, h2, h3⟩ := h
    exact ⟨p, vs, h1, e.fresh r0.inv h2, h3⟩
  | dic ds =>
    obtain ⟨p, vs, h1, h2, h3⟩ := h
    exact ⟨p, vs, h1, e.fresh r0.inv h2, h3⟩
  | th x =>
    obtain ⟨p, vs, h1, h2, h3⟩ := h
    exact ⟨p, vs, h1, e.fresh r0.inv h2, h3⟩
  | dll m =>
    obtain ⟨p, vs, h1, h2, h3, h4, h5⟩ := h
    exact ⟨p, vs, h1, e.fresh r0.inv h2, h3, h4, fun q hq => let ⟨L, e1, ne, e2⟩ := h5 q hq; ⟨L, e1, ne, e.fresh r0.inv e2⟩⟩
theorem je_blt {id : String} {r : List V → Hp → VK → Prop} {f : List D → (Rs → Prop) → Prop} {ts : UL} (O : Ok cp G N sc k X) (hc : CallR X (.builtin id) r) (hf : Cb X r f) (hm : Free G x) (ha : JVs τ X (e :: es) ts) (hv : bootBuiltins x = some (.builtin id)) (hg : sc.names.lookup x = some .globalImplicit := by rfl)
    (hn : x ≠ "__name__" := by decide) (hdb : (x == ("__debug__" : Str)) = false := by decide) (he : starEach (e :: es) X.env = (false, eval e X.env) :: starEach es X.env := by rfl) (hpl : (backTo pos (starEach es X.env)).any (·.1) = false := by rfl) :
    JE τ X (.Call (.Name x p) (e :: es) [] pos) (eB f ts) := fun ρ C c H0 γ σ H r Q q =>
  wpE_of (pe_callB hc (by show X.env.scope.names.lookup x = _; rw [O.es]; exact hg) (by rw [O.em]; exact hm) hv pa_w hn hdb he hpl) (ha ρ _ c H0 γ σ H r _ fun ds vs H2 c e1 b => hf τ H0 H2 γ σ ρ vs ds C (r.after e1) b c Q fun rs v H3 c e2 h => q rs v H3 c (e1.trans e2) (rs_back r e1 h))
theorem je_bty {T : String} {r : List V → Hp → VK → Prop} {f : List D → (Rs → Prop) → Prop} {ts : UL} (O : Ok cp G N sc k X) (hc : CallR X (.type T) r) (hf : Cb X r f) (hm : Free G x) (ha : JVs τ X (e :: es) ts) (hv : bootBuiltins x = some (.type T)) (hg : sc.names.lookup x = some .globalImplicit := by rfl)
    (hn : x ≠ "__name__" := by decide) (hdb : (x == ("__debug__" : Str)) = false := by decide) (he : starEach (e :: es) X.env = (false, eval e X.env) :: starEach es X.env := by rfl) (hpl : (backTo pos (starEach es X.env)).any (·.1) = false := by rfl) :
    JE τ X (.Call (.Name x p) (e :: es) [] pos) (eB f ts) := fun ρ C c H0 γ σ H r Q q =>
  wpE_of (pe_callTy hc (by show X.env.scope.names.lookup x = _; rw [O.es]; exact hg) (by rw [O.em]; exact hm) hv pa_w hn hdb he hpl) (ha ρ _ c H0 γ σ H r _ fun ds vs H2 c e1 b => hf τ H0 H2 γ σ ρ vs ds C (r.after e1) b c Q fun rs v H3 c e2 h => q rs v H3 c (e1.trans e2) (rs_back r e1 h))
end
end Pu
namespace Pu
open PySem PySem.Spec PyProof.Rows L2
section
variable {X : Cx}
theorem paired1 {R : V → D → Prop} {vs : List V} {d : D} (h : Paired R vs [d]) : ∃ v, vs = [v] ∧ R v d := by
  cases h with
  | cons h t => cases t; exact ⟨_, rfl, h⟩
theorem paired2 {R : V → D → Prop} {vs : List V} {d e : D} (h : Paired R vs [d, e]) : ∃ v w, vs = [v, w] ∧ R v d ∧ R w e := by
  cases h with
  | cons h t =>
    cases t with
    | cons h2 t => cases t; exact ⟨_, _, rfl, h, h2⟩
def fLen : List D → (Rs → Prop) → Prop
  | [.list ds], C => C (.dat (.int ds.length))
  | [.tuple ds], C => C (.dat (.int ds.length))
  | [.str x], C => x.length ≤ 1000000 ∧ C (.dat (.int x.length))
  | _, _ => False
theorem fLen_ok : Cb X (fun xs H Q => ∃ x n, xs = [x] ∧ LenV X.K x H n ∧ Q (.int n) H) fLen := fun τ H0 H γ σ ρ vs ds C r b f Q q => by
  unfold fLen at f
  split at f
  · obtain ⟨v, rfl, p, ws, rfl, hs, ha⟩ := paired1 b
    exact ⟨_, _, rfl, .inl ⟨ws, sqL_same res_le hs, rfl⟩, by rw [dpAll_len ha]; exact q _ _ H f .refl (.int _)⟩
  · obtain ⟨v, rfl, p, ws, rfl, hs, ha⟩ := paired1 b
    exact ⟨_, _, rfl, .inr ⟨ws, sqT_same res_le hs, rfl⟩, by rw [dpAll_len ha]; exact q _ _ H f .refl (.int _)⟩
  · obtain ⟨v, rfl, e⟩ := paired1 b
    cases e
    exact ⟨_, _, rfl, ⟨small_line f.1, rfl⟩, q _ _ H f.2 .refl (.int _)⟩
  · exact f.elim
def fI1 (g : Int → Int) : List D → (Rs → Prop) → Prop
  | [.int i], C => C (.dat (.int (g i)))
  | _, _ => False
def fI2 (g : Int → Int → Int) : List D → (Rs → Prop) → Prop
  | [.int i, .int j], C => C (.dat (.int (g i j)))
  | _, _ => False
abbrev fAbs := fI1 fun i => if i < 0 then -i else i
theorem fAbs_ok : Cb X (fun xs H Q => ∃ i, xs = [.int i] ∧ Q (.int (if i < 0 then -i else i)) H) fAbs := fun τ H0 H γ σ ρ vs ds C r b f Q q => by
  unfold fAbs fI1 at f
  split at f
  · obtain ⟨v, rfl, e⟩ := paired1 b
    cases e
    exact ⟨_, rfl, q _ _ H f .refl (.int _)⟩
  · exact f.elim
theorem fI2_ok {g : Int → Int → Int} : Cb X (fun xs H Q => ∃ i j, xs = [.int i, .int j] ∧ Q (.int (g i j)) H) (fI2 g) := fun τ H0 H γ σ ρ vs ds C r b f Q q => by
  unfold fI2 at f
  split at f
  · obtain ⟨v, w, rfl, e1, e2⟩ := paired2 b
    cases e1; cases e2
    exact ⟨_, _, rfl, q _ _ H f .refl (.int _)⟩
  · exact f.elim
abbrev fMax2 := fI2 fun i j => if j > i then j else i
abbrev fMin2 := fI2 fun i j => if j < i then j else i
/-! the least, the greatest of a tuple of ints -/
def rMaxT (K : PySem.W.Frag) : List V → Hp → VK → Prop := fun vs H Q => ∃ (a : Addr) (ns : List Int), vs = [V.ref a] ∧ SqT K H a (ns.map V.int) ∧ 0 < ns.length ∧ ∀ m, m ∈ ns → (∀ y, y ∈ ns → y ≤ m) → Q (.int m) H
def rMinT (K : PySem.W.Frag) : List V → Hp → VK → Prop := fun vs H Q => ∃ (a : Addr) (ns : List Int), vs = [V.ref a] ∧ SqT K H a (ns.map V.int) ∧ 0 < ns.length ∧ ∀ m, m ∈ ns → (∀ y, y ∈ ns → m ≤ y) → Q (.int m) H
theorem dp_ints {K : PySem.W.Frag} {H : Hp} : ∀ ns : List Int, DpAll K H (ns.map V.int) (ns.map PyData.int)
  | [] => .nil
  | _ :: ns => .cons (.int _) (dp_ints ns)
theorem min_fold : ∀ (ns : List Int) (n : Int), ns.foldl min n ∈ n :: ns ∧ ∀ y ∈ n :: ns, ns.foldl min n ≤ y
  | [], n => by simp
  | k :: ns, n => by
    obtain ⟨h1, h2⟩ := min_fold ns (min n k)
    have h0 := h2 _ (List.mem_cons_self ..)
    rw [List.foldl_cons]
    refine ⟨?_, fun y hy => ?_⟩
    · rcases List.mem_cons.mp h1 with h | h
      · rw [h]
        rcases Int.le_total n k with c | c
        · rw [Int.min_eq_left c]; simp
        · rw [Int.min_eq_right c]; simp
      · simp [h]
    · rcases List.mem_cons.mp hy with rfl | hy
      · omega
      · rcases List.mem_cons.mp hy with rfl | hy
        · omega
        · exact h2 y (List.mem_cons_of_mem _ hy)
theorem max_fold : ∀ (ns : List Int) (n : Int), ns.foldl max n ∈ n :: ns ∧ ∀ y ∈ n :: ns, y ≤ ns.foldl max n
  | [], n => by simp
  | k :: ns, n => by
    obtain ⟨h1, h2⟩ := max_fold ns (max n k)
    have h0 := h2 _ (List.mem_cons_self ..)
    rw [List.foldl_cons]
    refine ⟨?_, fun y hy => ?_⟩
    · rcases List.mem_cons.mp h1 with h | h
      · rw [h]
        rcases Int.le_total n k with c | c
        · rw [Int.max_eq_right c]; simp
        · rw [Int.max_eq_left c]; simp
      · simp [h]
    · rcases List.mem_cons.mp hy with rfl | hy
      · omega
      · rcases List.mem_cons.mp hy with rfl | hy
        · omega
        · exact h2 y (List.mem_cons_of_mem _ hy)
theorem min_ints (ns : List Int) (n : Int) : ∃ m, PySem.W.minD (.int n) (ns.map PyData.int) = .int m ∧ m ∈ n :: ns ∧ ∀ y ∈ n :: ns, m ≤ y := ⟨_, PySem.W.minD_ints n ns, min_fold ns n⟩
theorem max_ints (ns : List Int) (n : Int) : ∃ m, PySem.W.maxD (.int n) (ns.map PyData.int) = .int m ∧ m ∈ n :: ns ∧ ∀ y ∈ n :: ns, y ≤ m := ⟨_, PySem.W.maxD_ints n ns, max_fold ns n⟩
theorem alike_ints (ns : List Int) : PySem.W.AlikeAll (ns.map PyData.int) := by
  refine ⟨fun x hx y hy => ?_, fun x hx => ?_⟩
  · obtain ⟨a, _, rfl⟩ := List.mem_map.mp hx
    obtain ⟨b, _, rfl⟩ := List.mem_map.mp hy
    rfl
  · obtain ⟨a, _, rfl⟩ := List.mem_map.mp hx
    simp
theorem depth_ints : ∀ ns : List Int, PyData.depthAll (ns.map PyData.int) = 0
  | [] => rfl
  | _ :: ns => by simp [PyData.depthAll, PyData.depth, depth_ints ns]
theorem reads_int {h : Heap} {v : Value} {m : Int} {bs : List Addr} (r : Reads h v (.int m) bs) : ∃ t, v = .int m t := by
  cases r; exact ⟨_, rfl⟩
theorem cr_minT (hc : X.calm = true) (hu : X.A.units + 65 < cLine) : CallR X (.builtin "min") (rMinT X.K) := by
  intro pins s σ H vs us Q I r h
  obtain ⟨a, ns, rfl, hs, hne, q⟩ := h
  obtain ⟨its, rv, hl, _⟩ := I.tuple hs
  rw [Vals.ref1 r]
  cases ns with
  | nil => exact absurd hne (by simp)
  | cons n ns =>
    obtain ⟨as, hr⟩ := Dp.readsAll I ((n :: ns).map PyData.int) _ its (dp_ints _) rv
    obtain ⟨m, em, h1, h2⟩ := min_ints ns n
    refine PySem.W.min_tuple_data (x := .int n) (xs := ns.map PyData.int) (I.ok.hd hc) hl hr (alike_ints (n :: ns)) (by have := depth_ints (n :: ns); rw [List.map_cons] at this; rw [this]; omega) fun i v h' tk bs hv rd hk => ?_
    rw [em] at rd
    obtain ⟨t, rfl⟩ := reads_int rd
    exact ⟨.int _, H, I.kept hk, ⟨_, rfl⟩, q m h1 h2⟩
theorem cr_maxT (hc : X.calm = true) (hu : X.A.units + 65 < cLine) : CallR X (.builtin "max") (rMaxT X.K) := by
  intro pins s σ H vs us Q I r h
  obtain ⟨a, ns, rfl, hs, hne, q⟩ := h
  obtain ⟨its, rv, hl, _⟩ := I.tuple hs
  rw [Vals.ref1 r]
  cases ns with
  | nil => exact absurd hne (by simp)
  | cons n ns =>
    obtain ⟨as, hr⟩ := Dp.readsAll I ((n :: ns).map PyData.int) _ its (dp_ints _) rv
    obtain ⟨m, em, h1, h2⟩ := max_ints ns n
    refine PySem.W.max_tuple_data (x := .int n) (xs := ns.map PyData.int) (I.ok.hd hc) hl hr (alike_ints (n :: ns)) (by have := depth_ints (n :: ns); rw [List.map_cons] at this; rw [this]; omega) fun i v h' tk bs hv rd hk => ?_
    rw [em] at rd
    obtain ⟨t, rfl⟩ := reads_int rd
    exact ⟨.int _, H, I.kept hk, ⟨_, rfl⟩, q m h1 h2⟩
/-- the greatest, the least of a list, of a tuple of ints -/
def fMaxL : List D → (Rs → Prop) → Prop
  | [.list ds], C => ∃ ns, intsOf ds = some ns ∧ 0 < ns.length ∧ ∀ m, m ∈ ns → (∀ y, y ∈ ns → y ≤ m) → C (.dat (.int m))
  | [.tuple ds], C => ∃ ns, intsOf ds = some ns ∧ 0 < ns.length ∧ ∀ m, m ∈ ns → (∀ y, y ∈ ns → y ≤ m) → C (.dat (.int m))
  | _, _ => False
def fMinL : List D → (Rs → Prop) → Prop
  | [.list ds], C => ∃ ns, intsOf ds = some ns ∧ 0 < ns.length ∧ ∀ m, m ∈ ns → (∀ y, y ∈ ns → m ≤ y) → C (.dat (.int m))
  | [.tuple ds], C => ∃ ns, intsOf ds = some ns ∧ 0 < ns.length ∧ ∀ m, m ∈ ns → (∀ y, y ∈ ns → m ≤ y) → C (.dat (.int m))
  | _, _ => False
theorem fMaxL_ok : Cb X (fun vs H Q => rMax X.K vs H Q ∨ rMaxT X.K vs H Q) fMaxL := fun τ H0 H γ σ ρ vs ds C r b f Q q => by
  unfold fMaxL at f
  split at f
  · obtain ⟨v, rfl, p, ws, rfl, hs, ha⟩ := paired1 b
    obtain ⟨ns, h1, h2, h3⟩ := f
    have e := intsOf_dp h1 ha
    subst e
    exact .inl ⟨p, ns, rfl, sqL_same res_le hs, h2, fun m hm hy => q _ _ H (h3 m hm hy) .refl (.int _)⟩
  · obtain ⟨v, rfl, p, ws, rfl, hs, ha⟩ := paired1 b
    obtain ⟨ns, h1, h2, h3⟩ := f
    have e := intsOf_dp h1 ha
    subst e
    exact .inr ⟨p, ns, rfl, sqT_same res_le hs, h2, fun m hm hy => q _ _ H (h3 m hm hy) .refl (.int _)⟩
  · exact f.elim
theorem fMinL_ok : Cb X (fun vs H Q => rMin X.K vs H Q ∨ rMinT X.K vs H Q) fMinL := fun τ H0 H γ σ ρ vs ds C r b f Q q => by
  unfold fMinL at f
  split at f
  · obtain ⟨v, rfl, p, ws, rfl, hs, ha⟩ := paired1 b
    obtain ⟨ns, h1, h2, h3⟩ := f
    have e := intsOf_dp h1 ha
    subst e
    exact .inl ⟨p, ns, rfl, sqL_same res_le hs, h2, fun m hm hy => q _ _ H (h3 m hm hy) .refl (.int _)⟩
  · obtain ⟨v, rfl, p, ws, rfl, hs, ha⟩ := paired1 b
    obtain ⟨ns, h1, h2, h3⟩ := f
    have e := intsOf_dp h1 ha
    subst e
    exact .inr ⟨p, ns, rfl, sqT_same res_le hs, h2, fun m hm hy => q _ _ H (h3 m hm hy) .refl (.int _)⟩
  · exact f.elim
/-! sum of a list, of a tuple -/
def rSumT (K : PySem.W.Frag) : List V → Hp → VK → Prop := fun vs H Q => ∃ (a : Addr) (ns : List Int), vs = [V.ref a] ∧ SqT K H a (ns.map V.int) ∧ Q (.int ns.sum) H
theorem cr_sumT (hc : X.calm = true) : CallR X (.builtin "sum") (rSumT X.K) := by
  intro pins s σ H vs us Q I r h
  obtain ⟨a, ns, rfl, hs, q⟩ := h
  obtain ⟨its, rv, hl, _⟩ := I.tuple hs
  rw [Vals.ref1 r]
  have hi : IntsAre its ns := rv.ints
  obtain ⟨xs, hx⟩ := hi.allInts.items
  have hn : numsOf its.toArray.toList = ns := by rw [show its.toArray.toList = its from rfl, hi.numsOf]
  have hl' : s.heap.IsTuple a its.toArray := hl
  rw [hx] at hl' hn
  rw [nums_intItems] at hn
  refine PySem.W.ktm_sumG (I.ok.hd hc) hl' fun h' tk t' hk => ?_
  rw [preSum_eq, List.take_of_length_le (by simp), hn]
  exact ⟨.int _, H, I.kept hk, ⟨_, rfl⟩, q⟩
def fSum : List D → (Rs → Prop) → Prop
  | [.list ds], C => ∃ ns, intsOf ds = some ns ∧ C (.dat (.int ns.sum))
  | [.tuple ds], C => ∃ ns, intsOf ds = some ns ∧ C (.dat (.int ns.sum))
  | _, _ => False
theorem fSum_ok : Cb X (fun vs H Q => rSum X.K vs H Q ∨ rSumT X.K vs H Q) fSum := fun τ H0 H γ σ ρ vs ds C r b f Q q => by
  unfold fSum at f
  split at f
  · obtain ⟨v, rfl, p, ws, rfl, hs, ha⟩ := paired1 b
    obtain ⟨ns, h1, h2⟩ := f
    have e := intsOf_dp h1 ha
    subst e
    exact .inl ⟨p, ns, rfl, sqL_same res_le hs, q _ _ H h2 .refl (.int _)⟩
  · obtain ⟨v, rfl, p, ws, rfl, hs, ha⟩ := paired1 b
    obtain ⟨ns, h1, h2⟩ := f
    have e := intsOf_dp h1 ha
    subst e
    exact .inr ⟨p, ns, rfl, sqT_same res_le hs, q _ _ H h2 .refl (.int _)⟩
  · exact f.elim
def fTuple : List D → (Rs → Prop) → Prop
  | [.list ds], C => C (.dat (.tuple ds))
  | [.tuple ds], C => C (.dat (.tuple ds))
  | _, _ => False
/-- tuple(x), laid plainly -/
def rTupP (K : PySem.W.Frag) : List V → Hp → VK → Prop := fun xs H Q => ∃ p ys, xs = [.ref p] ∧ ((SqL K H p ys ∧ ∀ l o, o.dict = none → H l = none → Q (.ref l) (upd H l (.frz o (.tup ys)))) ∨ (SqT K H p ys ∧ Q (.ref p) H))
theorem call_tupP : CallR X (.type "tuple") (rTupP X.K) := by
  intro pins s σ H xs us Q I r h
  obtain ⟨p, ys, rfl, h⟩ := h
  obtain ⟨u, rfl, rx⟩ := vals1 r
  cases rx
  rcases h with ⟨hq, q⟩ | ⟨hq, q⟩
  · obtain ⟨us, r', pl, hz⟩ := I.list hq
    have hl := r'.length
    refine call_tuple_list pl.isList (fun h' kp => ?_) (by simp only [List.size_toArray]; omega)
    have I1 : Inv X pins σ H { s with heap := h' } := I.kept (t' := s.toks) kp
    exact ⟨.ref h'.objs.size, _, inv_plT (t' := s.toks) I1 hz r', rfl, q _ _ rfl (I1.hok.fresh (Nat.le_refl _))⟩
  · obtain ⟨us, r', pl, _⟩ := I.tuple hq
    exact call_tuple_same pl ⟨.ref p, H, I, rfl, q⟩
theorem fTuple_ok : Cb X (rTupP X.K) fTuple := fun τ H0 H γ σ ρ vs ds C r b f Q q => by
  unfold fTuple at f
  split at f
  · obtain ⟨v, rfl, p, ws, rfl, hs, ha⟩ := paired1 b
    exact ⟨p, ws, rfl, .inl ⟨sqL_same res_le hs, fun l o ho hl => q _ _ _ f (.new hl) (.tup (.inl (.inr ⟨o, res_put (r.notOwn hl) upd_same ho⟩)) (dpAll_after (.new hl) ha))⟩⟩
  · obtain ⟨v, rfl, p, ws, rfl, hs, ha⟩ := paired1 b
    exact ⟨p, ws, rfl, .inr ⟨sqT_same res_le hs, q _ _ _ f .refl (.tup (sqT_of_mut r hs) ha)⟩⟩
  · exact f.elim
def fList : List D → (Rs → Prop) → Prop
  | [.list ds], C => C (.lst ds)
  | [.tuple ds], C => C (.lst ds)
  | _, _ => False
theorem new_lst {τ : Tn} {H0 H : Hp} {γ : List (V × D)} {σ : St} {ρ : En} {vs : List V} {ds : List D} {l : Addr} (r : Rep X.K τ H0 γ H σ ρ) (hl : H l = none) (h : DpAll X.K (res H (own τ σ ρ)) vs ds) : RsOk X.K τ H (upd H l (.lst vs)) σ ρ (.ref l) (.lst ds) :=
  ⟨l, vs, rfl, hl, upd_same, dpAll_same (res_mono fun a o n ea => by
      have hne : a ≠ l := ne_of_none ea hl
      exact ⟨fun z => z.elim n hne, by rw [upd_ne hne]; exact ea⟩) _ _ h⟩
/-! x + y, as a thing of its own -/
def fAddE : D → D → (Rs → Prop) → Prop
  | .list xs, .list ys, C => xs.length + ys.length ≤ 1000000 ∧ C (.lst (xs ++ ys))
  | x, y, C => fAdd x y fun d => C (.dat d)
def eAdd (t u : UV) : UE := fun ρ C => t ρ fun x => u ρ fun y => fAddE x y C
theorem je_add {τ : Tn} {a b : Expr} {t u : UV} {pos : Pos} (ha : JV τ X a t) (hb : JV τ X b u) : JE τ X (.BinOp a .Add b pos) (eAdd t u) := fun ρ C c H0 γ σ H r Q q =>
  wpE_of (pe_op op_addU pe_w pe_w) (ha ρ _ c H0 γ σ H r _ fun d1 v1 H2 c e b1 => hb ρ _ c H0 γ σ H2 (r.after e) _ fun d2 v2 H3 c e2 b2 => by
    have r3 := (r.after e).after e2
    have b1' := b1.after e2
    by_cases hl : ∃ xs ys, d1 = .list xs ∧ d2 = .list ys
    · obtain ⟨xs, ys, rfl, rfl⟩ := hl
      obtain ⟨a, vs, rfl, hs, ha⟩ := b1'
      obtain ⟨b, ws, rfl, ht, hb⟩ := b2
      refine .inr (.inr (.inr ⟨a, b, vs, ws, rfl, rfl, sqL_same res_le hs, sqL_same res_le ht, by rw [dpAll_len ha, dpAll_len hb]; exact small_line c.1, fun p hp => ?_⟩))
      exact q _ _ _ c.2 ((e.trans e2).trans (.new hp)) (rs_back r (e.trans e2) (new_lst r3 hp (dpAll_append ha hb)))
    · have c' : fAdd d1 d2 fun d => C (.dat d) := by
        unfold fAddE at c
        split at c
        · exact absurd ⟨_, _, rfl, rfl⟩ hl
        · exact c
      exact fAdd_ok _ _ _ _ _ _ _ _ _ _ _ r3 b1' b2 c' Q fun d v H4 c e4 h => q _ v H4 c ((e.trans e2).trans e4) h)
theorem fList_ok : Cb X (fun xs H Q => ∃ p ys, xs = [.ref p] ∧ (SqL X.K H p ys ∨ SqT X.K H p ys) ∧ ∀ l, H l = none → Q (.ref l) (upd H l (.lst ys))) fList := fun τ H0 H γ σ ρ vs ds C r b f Q q => by
  unfold fList at f
  split at f
  · obtain ⟨v, rfl, p, ws, rfl, hs, ha⟩ := paired1 b
    exact ⟨p, ws, rfl, .inl (sqL_same res_le hs), fun l hl => q _ _ _ f (.new hl) (new_lst r hl ha)⟩
  · obtain ⟨v, rfl, p, ws, rfl, hs, ha⟩ := paired1 b
    exact ⟨p, ws, rfl, .inr (sqT_same res_le hs), fun l hl => q _ _ _ f (.new hl) (new_lst r hl ha)⟩
  · exact f.elim
def fDivmod : List D → (Rs → Prop) → Prop
  | [.int i, .int j], C => CDiv i j ∧ C (.dat (.tuple [.int (i / j), .int (i % j)]))
  | _, _ => False
theorem fDivmod_ok : Cb X (fun xs H Q => ∃ i j, xs = [.int i, .int j] ∧ CDiv i j ∧ ∀ p, H p = none → Q (.ref p) (upd H p (.tup [.int (i / j), .int (i % j)]))) fDivmod := fun τ H0 H γ σ ρ vs ds C r b f Q q => by
  unfold fDivmod at f
  split at f
  · obtain ⟨v, w, rfl, e1, e2⟩ := paired2 b
    cases e1; cases e2
    exact ⟨_, _, rfl, f.1, fun l hl => q _ _ _ f.2 (.new hl) (.tup (.inl (.inl (res_put (r.notOwn hl) upd_same ⟨_, rfl, fun _ z => nomatch z⟩))) (.cons (.int _) (.cons (.int _) .nil)))⟩
  · exact f.elim
def fInt1 : List D → (Rs → Prop) → Prop
  | [.int i], C => C (.dat (.int i))
  | [.bool b], C => C (.dat (.int (if b then 1 else 0)))
  | _, _ => False
theorem fInt1_ok : Cb X (fun xs H Q => (∃ i, xs = [.int i] ∧ Q (.int i) H) ∨ ∃ k, xs = [.bl k] ∧ Q (.int (if k then 1 else 0)) H) fInt1 := fun τ H0 H γ σ ρ vs ds C r b f Q q => by
  unfold fInt1 at f
  split at f
  · obtain ⟨v, rfl, e⟩ := paired1 b
    cases e
    exact .inl ⟨_, rfl, q _ _ H f .refl (.int _)⟩
  · obtain ⟨v, rfl, e⟩ := paired1 b
    cases e
    exact .inr ⟨_, rfl, q _ _ H f .refl (.int _)⟩
  · exact f.elim
/-! all, any of a list of truths -/
def boolsOf : List D → Option (List Bool)
  | [] => some []
  | .bool b :: ds => (boolsOf ds).map (b :: ·)
  | _ :: _ => none
theorem boolsOf_dp {K : PySem.W.Frag} {H : Hp} : ∀ {ds : List D} {bs : List Bool} {vs : List V}, boolsOf ds = some bs → DpAll K H vs ds → vs = bs.map V.bl
  | [], ns, vs, h, a => by
    cases a
    cases h
    rfl
  | .bool i :: ds, ns, _, h, .cons h1 h2 => by
    simp only [boolsOf, Option.map_eq_some_iff] at h
    obtain ⟨ms, e, rfl⟩ := h
    cases h1
    rw [boolsOf_dp e h2]
    rfl
  | .none :: _, _, _, h, _ => by simp [boolsOf] at h
  | .int _ :: _, _, _, h, _ => by simp [boolsOf] at h
  | .str _ :: _, _, _, h, _ => by simp [boolsOf] at h
  | .list _ :: _, _, _, h, _ => by simp [boolsOf] at h
  | .tuple _ :: _, _, _, h, _ => by simp [boolsOf] at h
  | .dict _ :: _, _, _, h, _ => by simp [boolsOf] at h
def fAllB (g : List Bool → Bool) : List D → (Rs → Prop) → Prop
  | [.list ds], C => ∃ bs, boolsOf ds = some bs ∧ C (.dat (.bool (g bs)))
  | _, _ => False
theorem fAll_ok : Cb X (rAll X.K) (fAllB fun bs => bs.all id) := fun τ H0 H γ σ ρ vs ds C r b f Q q => by
  unfold fAllB at f
  split at f
  · obtain ⟨v, rfl, p, ws, rfl, hs, ha⟩ := paired1 b
    obtain ⟨ns, h1, h2⟩ := f
    have e := boolsOf_dp h1 ha
    subst e
    exact ⟨p, ns, rfl, sqL_same res_le hs, q _ _ H h2 .refl (.bl _)⟩
  · exact f.elim
theorem fAny_ok : Cb X (rAny X.K) (fAllB fun bs => bs.any id) := fun τ H0 H γ σ ρ vs ds C r b f Q q => by
  unfold fAllB at f
  split at f
  · obtain ⟨v, rfl, p, ws, rfl, hs, ha⟩ := paired1 b
    obtain ⟨ns, h1, h2⟩ := f
    have e := boolsOf_dp h1 ha
    subst e
    exact ⟨p, ns, rfl, sqL_same res_le hs, q _ _ H h2 .refl (.bl _)⟩
  · exact f.elim
/-! isinstance(x, a built-in type) -/
def tyName : D → String
  | .none => "NoneType"
  | .bool _ => "bool"
  | .int _ => "int"
  | .str _ => "str"
  | .list _ => "list"
  | .tuple _ => "tuple"
  | .dict _ => "dict"
def fIsi (T : String) : D → (D → Prop) → Prop := fun d C => ∃ b, kitB (tyName d) T = some b ∧ C (.bool b)
theorem bo_ty {K : PySem.W.Frag} {τ : Tn} {H R : Hp} {v : V} {d : D} (h : Bo K τ H R v d) : TyX K H v (.type (tyName d)) := by
  cases d with
  | none => cases h; exact .base .non
  | bool _ => cases h; exact .base (.bl _)
  | int _ => cases h; exact .base (.int _)
  | str _ => cases h; exact .base (.str _)
  | list ds =>
    obtain ⟨a, vs, rfl, hs, _⟩ := h
    rcases sqL_same res_le hs with (h | ⟨o, h⟩) | ⟨o, its, n, h1, h2, _⟩
    · exact .base (.lst h)
    · exact .base (.frz h)
    · exact .kList h1 h2
  | tuple ds =>
    obtain ⟨a, vs, rfl, hs, _⟩ := h
    rcases sqT_same res_le hs with (h | ⟨o, h⟩) | ⟨o, its, n, h1, h2, _⟩
    · exact .base (.tup h)
    · exact .fTuple h
    · exact .kTuple h1 h2
  | dict _ => exact h.elim
variable {τ : Tn} {G : Gx} {cp : List Str} {N : List Str} {sc : Scope} {k : Nat} {a : Expr} {t : UV} {pos p p2 : Pos}
theorem jd_isi {y : Str} {T : String} (O : Ok cp G N sc k X) (hm : Free G "isinstance") (hm2 : Free G y) (ha : JV τ X a t) (hv2 : bootBuiltins y = some (.type T)) (hg : sc.names.lookup ("isinstance" : Str) = some .globalImplicit := by rfl) (hg2 : sc.names.lookup y = some .globalImplicit := by rfl)
    (hn2 : y ≠ "__name__" := by decide) (hd2 : (y == ("__debug__" : Str)) = false := by decide)
    (he : starEach (a :: [.Name y p2]) X.env = (false, eval a X.env) :: starEach [.Name y p2] X.env := by rfl) (hpl : (backTo pos (starEach [.Name y p2] X.env)).any (·.1) = false := by rfl) (hs2 : starEach [.Name y p2] X.env = [(false, eval (.Name y p2) X.env)] := by rfl) :
    JD τ X (.Call (.Name "isinstance" p) [a, .Name y p2] [] pos) (d1 (fIsi T) t) := fun ρ C c H0 γ σ H r Q q =>
  wpE_of (pe_callB call_isi (by show X.env.scope.names.lookup _ = _; rw [O.es]; exact hg) (by rw [O.em]; exact hm) (by decide +kernel) (pa_cons pe_w (pa_cons (pe_bltn (v := .ty T) (by show X.env.scope.names.lookup _ = _; rw [O.es]; exact hg2) (by rw [O.em]; exact hm2) hv2 rfl hn2 hd2) pa_nil hs2) he) (by decide) (by decide) he hpl)
    (ha ρ _ c H0 γ σ H r _ fun d v H2 c e b => by
      obtain ⟨z, h1, h2⟩ := c
      exact ⟨v, .ty T, _, _, z, rfl, .ty T, bo_ty b, kit_ty h1, q _ _ H2 h2 e (.bl z)⟩)
end
end Pu
namespace Pu
open PySem PySem.Spec PyProof.Rows L2
/-! ### statements -/
structure Ed where
  nx : En → Prop
  rt : Rs → Prop
  bk : En → Prop := fun _ => False
  ct : En → Prop := fun _ => False
abbrev US := Ed → En → Prop
structure EdOk (K : PySem.W.Frag) (τ : Tn) (H0 : Hp) (γ : List (V × D)) (E : Ed) (Dn : Ends) : Prop where
  nx : ∀ (ρ : En) (σ : St) (H : Hp), E.nx ρ → Rep K τ H0 γ H σ ρ → Dn.nx σ H
  bk : ∀ (ρ : En) (σ : St) (H : Hp), E.bk ρ → Rep K τ H0 γ H σ ρ → Dn.bk σ H
  ct : ∀ (ρ : En) (σ : St) (H : Hp), E.ct ρ → Rep K τ H0 γ H σ ρ → Dn.ct σ H
  rt : ∀ (r : Rs) (v : V) (H : Hp), E.rt r → (∀ a o, H0 a = some o → ¬ τ.ad a → H a = some o) → τ.inv H → RtV K τ H0 H v r → Dn.rt v H
def JS (τ : Tn) (X : Cx) (st : Stmt) (t : US) : Prop := ∀ (ρ : En) (E : Ed), t E ρ → ∀ (H0 : Hp) (γ : List (V × D)) (σ : St) (H : Hp), Rep X.K τ H0 γ H σ ρ → ∀ Dn : Ends, EdOk X.K τ H0 γ E Dn → wpS X st Dn σ H
def JSs (τ : Tn) (X : Cx) (st : List Stmt) (t : US) : Prop := ∀ (ρ : En) (E : Ed), t E ρ → ∀ (H0 : Hp) (γ : List (V × D)) (σ : St) (H : Hp), Rep X.K τ H0 γ H σ ρ → ∀ Dn : Ends, EdOk X.K τ H0 γ E Dn → wpSs X st Dn σ H
abbrev UG := D → En → (En → Prop) → Prop
abbrev UGs := List D → En → (En → Prop) → Prop
def JG (τ : Tn) (X : Cx) (tg : Expr) (g : UG) : Prop := ∀ (d : D) (ρ : En) (C : En → Prop), g d ρ C → ∀ (H0 : Hp) (γ : List (V × D)) (σ : St) (H : Hp) (v : V), Rep X.K τ H0 γ H σ ρ → Dp X.K (res H (own τ σ ρ)) v d → ∀ Q : St → Hp → Prop,
  (∀ ρ' σ', C ρ' → Rep X.K τ H0 γ H σ' ρ' → (∀ a, own τ σ' ρ' a → own τ σ ρ a) → Q σ' H) → wpG X tg v σ H Q
def JGs (τ : Tn) (X : Cx) (ts : List Expr) (g : UGs) : Prop := ∀ (ds : List D) (ρ : En) (C : En → Prop), g ds ρ C → ∀ (H0 : Hp) (γ : List (V × D)) (σ : St) (H : Hp) (vs : List V), Rep X.K τ H0 γ H σ ρ → DpAll X.K (res H (own τ σ ρ)) vs ds → ∀ Q : St → Hp → Prop,
  (∀ ρ' σ', C ρ' → Rep X.K τ H0 γ H σ' ρ' → (∀ a, own τ σ' ρ' a → own τ σ ρ a) → Q σ' H) → wpGs X ts vs σ H Q
/-! ### storing -/
def Rs.sl : Rs → Sl
  | .dat d => .dat d
  | .lst ds => .lst ds
  | .dic kds => .dic kds
  | .th x => .th x
  | .dll m => .dic (toK m)
section
variable {K : PySem.W.Frag} {τ : Tn} {H0 H H' : Hp} {γ : List (V × D)} {σ : St} {ρ : En} {v : V} {d : D} {i : Nat}
theorem own_set {s : Sl} {a : Addr} (h : own τ (σ.set i (some v)) (ρ.set i s) a) : own τ σ ρ a ∨ (s.isOwn = true ∧ v = .ref a) := by
  rcases h with h | ⟨j, u, h1, h2, h3⟩
  · exact .inl (.inl h)
  · by_cases e : i = j
    · subst e
      by_cases hi : i < ρ.length
      · rw [List.getElem?_set_self hi] at h1
        cases h1
        by_cases hi2 : i < σ.length
        · rw [List.getElem?_set_self hi2] at h3
          cases h3
          exact .inr ⟨h2, rfl⟩
        · rw [List.getElem?_eq_none (by simpa using hi2)] at h3; cases h3
      · rw [List.getElem?_eq_none (by simpa using hi)] at h1; cases h1
    · rw [List.getElem?_set_ne e] at h1 h3
      exact .inl (.inr ⟨j, u, h1, h2, h3⟩)
theorem set_other {s : Sl} {j : Nat} {u : Sl} (e : i ≠ j) (h : (ρ.set i s)[j]? = some u) : ρ[j]? = some u := by
  rw [List.getElem?_set_ne e] at h
  exact h
theorem set_here {s u : Sl} (h : (ρ.set i s)[i]? = some u) : u = s ∧ i < ρ.length := by
  by_cases hi : i < ρ.length
  · rw [List.getElem?_set_self hi] at h
    exact ⟨(Option.some.inj h).symm, hi⟩
  · rw [List.getElem?_eq_none (by simpa using hi)] at h; cases h
/-- data is stored -/
theorem Rep.setDat (r : Rep K τ H0 γ H σ ρ) (h : Dp K (res H (own τ σ ρ)) v d) : Rep K τ H0 γ H (σ.set i (some v)) (ρ.set i (.dat d)) := by
  have sub : ∀ a, own τ (σ.set i (some v)) (ρ.set i (.dat d)) a → own τ σ ρ a := fun a z => (own_set z).elim id fun q => by cases q.1
  have le : Same (res H (own τ σ ρ)) (res H (own τ (σ.set i (some v)) (ρ.set i (.dat d)))) := res_mono fun a o n e => ⟨fun z => n (sub a z), e⟩
  refine ⟨by simp [r.len], r.ext, r.inv, fun j u hu => ?_, fun j k u w a h1 h2 h3 h4 h5 h6 => ?_, fun p hp => dp_same le _ _ (r.gh p hp), r.zz⟩
  · by_cases e : i = j
    · subst e
      obtain ⟨rfl, hi⟩ := set_here hu
      exact ⟨v, List.getElem?_set_self (by rw [r.len]; exact hi), dp_same le _ _ h⟩
    · rw [List.getElem?_set_ne e]
      exact SlOk.mono le (fun _ _ _ _ _ q => q) (r.sl j u (set_other e hu))
  · have n1 : i ≠ j := fun e => by subst e; rw [(set_here h1).1] at h3; cases h3
    have n2 : i ≠ k := fun e => by subst e; rw [(set_here h2).1] at h4; cases h4
    rw [List.getElem?_set_ne n1] at h5
    rw [List.getElem?_set_ne n2] at h6
    exact r.sep j k u w a (set_other n1 h1) (set_other n2 h2) h3 h4 h5 h6
/-- a new object is stored: a the address, s its slot, told at H with all that may change and a left out -/
theorem Rep.setNew {a : Addr} {s : Sl} (r0 : Rep K τ H0 γ H σ ρ) (e : Ext τ H H') (hn : H a = none) (hs : s.isOwn = true)
    (h : ∀ R : Hp, Same (res H' (fun b => own τ σ ρ b ∨ b = a)) R → SlOk K τ H0 H' R (some (some (.ref a))) s) : Rep K τ H0 γ H' (σ.set i (some (.ref a))) (ρ.set i s) := by
  have r := r0.after e
  have nown : ¬ own τ σ ρ a := r0.notOwn hn
  have nad : ¬ τ.ad a := fun z => nown (own_ad z)
  have sub : ∀ b, own τ (σ.set i (some (.ref a))) (ρ.set i s) b → own τ σ ρ b ∨ b = a := fun b z => (own_set z).elim .inl fun q => .inr (V.ref.inj q.2).symm
  have le1 : Same (res H' (fun b => own τ σ ρ b ∨ b = a)) (res H' (own τ (σ.set i (some (.ref a))) (ρ.set i s))) := res_mono fun b o n q => ⟨fun z => n (sub b z), q⟩
  have le0 : Same (res H (own τ σ ρ)) (res H' (own τ (σ.set i (some (.ref a))) (ρ.set i s))) := res_mono fun b o n q => by
    have hb : b ≠ a := ne_of_none q hn
    exact ⟨fun z => (sub b z).elim n hb, e.kp b o q fun z => n (own_ad z)⟩
  refine ⟨by simp [r.len], r.ext, r.inv, fun j u hu => ?_, fun j k u w b h1 h2 h3 h4 h5 h6 => ?_, fun p hp => dp_same le0 _ _ (r0.gh p hp), r.zz⟩
  · by_cases ej : i = j
    · subst ej
      obtain ⟨rfl, hi⟩ := set_here hu
      rw [List.getElem?_set_self (by rw [r.len]; exact hi)]
      exact h _ le1
    · rw [List.getElem?_set_ne ej]
      exact SlOk.mono le0 (fun _ b o _ nb q => e.kp b o q nb) (r0.sl j u (set_other ej hu))
  · have other : ∀ (k : Nat) (w : Sl), i ≠ k → (ρ.set i s)[k]? = some w → w.isOwn = true → (σ.set i (some (.ref a)))[k]? = some (some (.ref b)) → b ≠ a := fun k w n hk ho hv z => by
      rw [List.getElem?_set_ne n] at hv
      exact nown (.inr ⟨k, w, set_other n hk, ho, by rw [z] at hv; exact hv⟩)
    have here : ∀ (w : Sl), (ρ.set i s)[i]? = some w → (σ.set i (some (.ref a)))[i]? = some (some (.ref b)) → b = a := fun w hk hv => by
      rw [List.getElem?_set_self (by rw [r.len]; exact (set_here hk).2)] at hv
      exact (V.ref.inj (Option.some.inj (Option.some.inj hv))).symm
    by_cases e1 : i = j
    · by_cases e2 : i = k
      · omega
      · subst e1
        exact absurd (here u h1 h5) (other k w e2 h2 h4 h6)
    · by_cases e2 : i = k
      · subst e2
        exact absurd (here w h2 h6) (other j u e1 h1 h3 h5)
      · rw [List.getElem?_set_ne e1] at h5
        rw [List.getElem?_set_ne e2] at h6
        exact r.sep j k u w b (set_other e1 h1) (set_other e2 h2) h3 h4 h5 h6
theorem Rep.fresh0 (r : Rep K τ H0 γ H σ ρ) {a : Addr} (h : H a = none) : H0 a = none ∧ ¬ τ.ad a := by
  have nad : ¬ τ.ad a := fun z => r.notOwn h (own_ad z)
  refine ⟨?_, nad⟩
  cases q : H0 a with
  | none => rfl
  | some o => rw [r.ext a o q nad] at h; cases h
/-- any result is stored -/
theorem Rep.set {rs : Rs} (r : Rep K τ H0 γ H σ ρ) (e : Ext τ H H') (h : RsOk K τ H H' σ ρ v rs) : Rep K τ H0 γ H' (σ.set i (some v)) (ρ.set i rs.sl) := by
  cases rs with
  | dat d => exact (r.after e).setDat h
  | lst ds =>
    obtain ⟨a, vs, rfl, hn, he, ha⟩ := h
    obtain ⟨f1, f2⟩ := r.fresh0 hn
    exact r.setNew e hn rfl fun R le => ⟨a, vs, rfl, f1, f2, he, dpAll_same le _ _ ha⟩
  | dic kds =>
    obtain ⟨a, vs, rfl, hn, he, ha⟩ := h
    obtain ⟨f1, f2⟩ := r.fresh0 hn
    exact r.setNew e hn rfl fun R le => ⟨a, vs, rfl, f1, f2, he, KvOk.same le ha⟩
  | th x =>
    obtain ⟨a, o, rfl, hn, he, ha⟩ := h
    obtain ⟨f1, f2⟩ := r.fresh0 hn
    exact r.setNew e hn rfl fun R le => ⟨a, o, rfl, f1, f2, he, ha.same le⟩
  | dll m =>
    obtain ⟨a, vs, rfl, hn, he, ha, _⟩ := h
    obtain ⟨f1, f2⟩ := r.fresh0 hn
    exact r.setNew e hn rfl fun R le => ⟨a, vs, rfl, f1, f2, he, KvOk.same le ha⟩
/-- a result leaves the def -/
theorem RsOk.rt {rs : Rs} (r : Rep K τ H0 γ H σ ρ) (e : Ext τ H H') (h : RsOk K τ H H' σ ρ v rs) : RtV K τ H0 H' v rs := by
  cases rs with
  | dat d => exact dp_same res_own_ad _ _ h
  | lst ds =>
    obtain ⟨a, vs, rfl, hn, he, ha⟩ := h
    exact ⟨a, vs, rfl, (r.fresh0 hn).1, he, dpAll_same (res_mono fun b o n q => ⟨fun z => n (z.imp own_ad id), q⟩) _ _ ha⟩
  | dic kds =>
    obtain ⟨a, vs, rfl, hn, he, ha⟩ := h
    exact ⟨a, vs, rfl, (r.fresh0 hn).1, he, KvOk.same (res_mono fun b o n q => ⟨fun z => n (z.imp own_ad id), q⟩) ha⟩
  | th x =>
    obtain ⟨a, o, rfl, hn, he, ha⟩ := h
    exact ⟨a, o, rfl, (r.fresh0 hn).1, he, ha.same (res_mono fun b o n q => ⟨fun z => n (z.imp own_ad id), q⟩)⟩
  | dll m =>
    obtain ⟨a, vs, rfl, hn, he, ha, hf⟩ := h
    exact ⟨a, vs, rfl, (r.fresh0 hn).1, he, KvOk.same (res_mono fun b o n q => ⟨fun z => n (z.imp own_ad id), q⟩) ha, fun q hq => let ⟨L, e1, ne, e2⟩ := hf q hq; ⟨L, e1, ne, (r.fresh0 e2).1⟩⟩
/-- a result without lists stays one when another new object is stored -/
theorem RsOk.beside {rs rs' : Rs} {v' : V} {Hm : Hp} (r : Rep K τ H0 γ H σ ρ) (e1 : Ext τ H Hm) (e2 : Ext τ Hm H') (h1 : RsOk K τ H Hm σ ρ v' rs') (l : rs.lf = true) (h : RsOk K τ Hm H' σ ρ v rs) : RsOk K τ Hm H' (σ.set i (some v')) (ρ.set i rs'.sl) v rs := by
  have rm := r.set (i := i) e1 h1
  have r' := rm.after e2
  have nm : ∀ (b : Addr) (u : HO), H' b = some u → ¬ Mv u → ¬ own τ (σ.set i (some v')) (ρ.set i rs'.sl) b := fun b u e n z => by
    obtain ⟨o, e', m⟩ := r'.ownMut z
    rw [e] at e'; cases e'
    exact n m
  cases rs with
  | dat d => exact r'.lfRes (fun a z => r'.ownMut z) res_le (fun _ _ => res_ok) l h
  | lst ds =>
    obtain ⟨a, vs, rfl, hn, he, ha⟩ := h
    refine ⟨a, vs, rfl, hn, he, dpAll_lf (fun b xs h => ?_) ds vs l ha⟩
    have na : ∀ u : HO, H' b = some u → ¬ Mv u → b ≠ a := fun u e n z => by
      rw [z, he] at e; cases e
      exact n trivial
    rcases h with h | ⟨o, h⟩
    · exact .inl (res_put (fun z => z.elim (nm b _ (res_at h) fun z => z) (na _ (res_at h) fun z => z)) (res_at h) (res_ok h))
    · exact .inr ⟨o, res_put (fun z => z.elim (nm b _ (res_at h) fun z => z) (na _ (res_at h) fun z => z)) (res_at h) (res_ok h)⟩
  | dic kds =>
    obtain ⟨a, kvs, rfl, hn, he, ha⟩ := h
    refine ⟨a, kvs, rfl, hn, he, ?_⟩
    have na : ∀ (b : Addr) (u : HO), H' b = some u → ¬ Mv u → b ≠ a := fun b u e n z => by
      rw [z, he] at e; cases e
      exact n trivial
    have l' : lfAll (kds.map (·.2)) = true := l
    clear l he
    induction ha with
    | nil => exact .nil
    | cons h1 h2 ih =>
      simp only [List.map_cons, lfAll, Bool.and_eq_true] at l'
      refine .cons ⟨h1.1, dp_lf (fun b xs h => ?_) _ _ l'.1 h1.2⟩ (ih l'.2)
      rcases h with h | ⟨o, h⟩
      · exact .inl (res_put (fun z => z.elim (nm b _ (res_at h) fun z => z) (na b _ (res_at h) fun z => z)) (res_at h) (res_ok h))
      · exact .inr ⟨o, res_put (fun z => z.elim (nm b _ (res_at h) fun z => z) (na b _ (res_at h) fun z => z)) (res_at h) (res_ok h)⟩
  | th x =>
    obtain ⟨a, o, rfl, hn, he, ha⟩ := h
    refine ⟨a, o, rfl, hn, he, ?_⟩
    obtain ⟨φ, rfl⟩ := ha.ext
    have na : ∀ (b : Addr) (u : HO), H' b = some u → ¬ Mv u → b ≠ a := fun b u e n z => by
      rw [z, he] at e; cases e
      exact n trivial
    refine ThIs.lf (fun b xs h => ?_) l ha
    rcases h with h | ⟨o, h⟩
    · exact .inl (res_put (fun z => z.elim (nm b _ (res_at h) fun z => z) (na b _ (res_at h) fun z => z)) (res_at h) (res_ok h))
    · exact .inr ⟨o, res_put (fun z => z.elim (nm b _ (res_at h) fun z => z) (na b _ (res_at h) fun z => z)) (res_at h) (res_ok h)⟩
  | dll m =>
    obtain ⟨a, kvs, rfl, hn, he, ha, hf⟩ := h
    refine ⟨a, kvs, rfl, hn, he, dll_lf l ha (fun p hp => ?_) fun b u e n z => ?_, hf⟩
    · obtain ⟨L, e1', ne', e2'⟩ := hf p hp
      refine ⟨L, e1', fun z => ?_⟩
      rcases z with z | z
      · obtain ⟨o, e', m⟩ := rm.ownMut z
        rw [e2'] at e'; cases e'
      · exact ne' z
    · rcases z with z | z
      · exact nm b u e n z
      · rw [z, he] at e; cases e
        exact n trivial
end
end Pu
namespace Pu
open PySem PySem.Spec PyProof.Rows L2
section
variable {τ : Tn} {G : Gx} {cp : List Str} {N : List Str} {sc : Scope} {k : Nat} {X : Cx} {e e2 e3 tg : Expr} {es : List Expr} {st : Stmt} {rest a b body : List Stmt} {t u : US} {tv : UV} {te ue we : UE} {tt : UT} {g : UG} {gs : UGs} {pos p2 : Pos} {x y z : Str}
def sNext : US := fun E ρ => E.nx ρ
def sSeq (t u : US) : US := fun E ρ => t { E with nx := u E } ρ
theorem jss_nil : JSs τ X [] sNext := fun ρ E c H0 γ σ H r Dn d => wpSs_of pss_nil (d.nx ρ σ H c r)
theorem jss_cons (h1 : JS τ X st t) (h2 : JSs τ X rest u) : JSs τ X (st :: rest) (sSeq t u) := fun ρ E c H0 γ σ H r Dn d =>
  wpSs_of (pss_cons ps_w pss_w) (h1 ρ _ c H0 γ σ H r _ ⟨fun ρ' σ' H' c r' => h2 ρ' E c H0 γ σ' H' r' Dn d, d.bk, d.ct, d.rt⟩)
theorem jss_one (h1 : JS τ X st t) : JSs τ X [st] t := fun ρ E c H0 γ σ H r Dn d => wpSs_of (pss_one ps_w) (h1 ρ E c H0 γ σ H r Dn d)
def sNever : US := fun _ _ => False
theorem js_never : JS τ X st sNever := fun _ _ c => c.elim
theorem jss_never : JSs τ X a sNever := fun _ _ c => c.elim
theorem js_pass : JS τ X (.Pass pos) sNext := fun ρ E c H0 γ σ H r Dn d => wpS_of ps_pass (d.nx ρ σ H c r)
def sBreak : US := fun E ρ => E.bk ρ
theorem js_break : JS τ X (.Break pos) sBreak := fun ρ E c H0 γ σ H r Dn d => wpS_of ps_break (d.bk ρ σ H c r)
def sCont : US := fun E ρ => E.ct ρ
theorem js_cont : JS τ X (.Continue pos) sCont := fun ρ E c H0 γ σ H r Dn d => wpS_of ps_continue (d.ct ρ σ H c r)
def sDrop (te : UE) : US := fun E ρ => te ρ fun _ => E.nx ρ
theorem js_expr (he : JE τ X e te) (hs : swapsWith e none pos.line X.env = pure false := by rfl) : JS τ X (.Expr e pos) (sDrop te) := fun ρ E c H0 γ σ H r Dn d =>
  wpS_of (ps_expr pe_w hs) (he ρ _ c H0 γ σ H r _ fun rs v H2 c e1 h => d.nx ρ σ H2 c (r.after e1))
def sRet (te : UE) : US := fun _E ρ => te ρ _E.rt
theorem js_ret (he : JE τ X e te) : JS τ X (.Return (some e) pos) (sRet te) := fun ρ E c H0 γ σ H r Dn d =>
  wpS_of (ps_ret pe_w) (he ρ _ c H0 γ σ H r _ fun rs v H2 c e1 h => d.rt rs v H2 c (r.after e1).ext (r.after e1).inv (h.rt r e1))
def sRetN : US := fun E _ => E.rt (.dat .none)
theorem js_retN : JS τ X (.Return none pos) sRetN := fun ρ E c H0 γ σ H r Dn d => wpS_of ps_retN (d.rt _ _ H c r.ext r.inv .non)
/-- return x, x perhaps a list of one's own -/
def sRetV (i : Nat) : US := fun E ρ => match ρ[i]? with
  | some (.dat d) => E.rt (.dat d)
  | some (.lst ds) => E.rt (.lst ds)
  | some (.dic ds) => E.rt (.dic ds)
  | some (.th x) => E.rt (.th x)
  | _ => False
theorem js_retV (S : Ok cp G N sc k X) (i : Nat) (hN : N[i]? = some x := by rfl) (hv : Vis sc x := by first | exact Or.inl rfl | exact Or.inr (Or.inl rfl) | exact Or.inr (Or.inr rfl)) (hd : (x == ("__debug__" : Str)) = false := by decide) (hcd : (x == ("__classdict__" : Str)) = false := by decide) :
    JS τ X (.Return (some (.Name x p2)) pos) (sRetV i) := fun ρ E c H0 γ σ H r Dn d => by
  refine wpS_of (ps_ret (pe_var (i := i) (by rw [S.eN]; exact hN) (by rw [S.es]; exact hv) hd hcd)) ?_
  have le : ∀ a : Addr, own τ σ ρ a → Same (res H (own τ σ ρ)) (res H (fun b => τ.ad b ∨ b = a)) := fun a ha => res_mono fun b o n q => ⟨fun z => n (z.elim own_ad fun z => by rw [z]; exact ha), q⟩
  unfold sRetV at c
  split at c
  · rename_i dd hi
    obtain ⟨v, e, h⟩ := r.sl i _ hi
    exact ⟨v, e, d.rt _ _ H c r.ext r.inv (dp_same res_own_ad _ _ h)⟩
  · rename_i ds hi
    obtain ⟨a, vs, e, h0, hn, h, h'⟩ := r.sl i _ hi
    exact ⟨_, e, d.rt _ _ H c r.ext r.inv ⟨a, vs, rfl, h0, h, dpAll_same (le a (.inr ⟨i, _, hi, rfl, e⟩)) _ _ h'⟩⟩
  · rename_i ds hi
    obtain ⟨a, vs, e, h0, hn, h, h'⟩ := r.sl i _ hi
    exact ⟨_, e, d.rt _ _ H c r.ext r.inv ⟨a, vs, rfl, h0, h, KvOk.same (le a (.inr ⟨i, _, hi, rfl, e⟩)) h'⟩⟩
  · rename_i ds hi
    obtain ⟨a, o, e, h0, hn, h, h'⟩ := r.sl i _ hi
    exact ⟨_, e, d.rt _ _ H c r.ext r.inv ⟨a, o, rfl, h0, h, h'.same (le a (.inr ⟨i, _, hi, rfl, e⟩))⟩⟩
  · exact c.elim
def sIf (tt : UT) (t u : US) : US := fun E ρ => tt ρ fun z => (z = true → t E ρ) ∧ (z = false → u E ρ)
theorem js_if (hc : JT τ X e tt) (ha : JSs τ X a t) (hb : JSs τ X b u) : JS τ X (.If e a b pos) (sIf tt t u) := fun ρ E c H0 γ σ H r Dn d =>
  wpS_of (ps_if pt_w pss_w pss_w) (hc ρ _ c H0 γ σ H r _ fun z H2 c e1 => by
    cases z with
    | true => exact iteT (ha ρ E (c.1 rfl) H0 γ σ H2 (r.after e1) Dn d)
    | false => exact iteF (hb ρ E (c.2 rfl) H0 γ σ H2 (r.after e1) Dn d))
/-! ### assignments -/
theorem loc_of (S : Ok cp G N sc k X) (h : LocC cp sc x) : Loc X.env.scope x := by
  rw [S.es]
  exact h.imp id And.left
theorem fn_of_loc (S : Ok cp G N sc k X) (h : LocC cp sc x) : X.fn x = true ∨ X.env.scope.names.lookup x = some .local := by
  rcases h with h | h
  · exact .inr (by rw [S.es]; exact h)
  · exact .inl (S.fn x h.1 h.2)
def sSet (i : Nat) (te : UE) : US := fun E ρ => te ρ fun r => E.nx (ρ.set i r.sl)
theorem js_set (S : Ok cp G N sc k X) (i : Nat) (he : JE τ X e te) (hN : N[i]? = some x := by rfl) (hx : LocC cp sc x := by first | exact Or.inl rfl | exact Or.inr ⟨rfl, rfl⟩) (hs : swapsWith e (some (.Name x p2)) pos.line X.env = pure false := by rfl) : JS τ X (.Assign [.Name x p2] e pos) (sSet i te) := fun ρ E c H0 γ σ H r Dn d =>
  wpS_of (ps_set (i := i) (by rw [S.eN]; exact S.nd) (by rw [S.eN]; exact hN) (loc_of S hx) pe_w hs (fn_of_loc S hx)) (he ρ _ c H0 γ σ H r _ fun rs v H2 c e1 h => d.nx _ _ H2 c (r.set e1 h))
def gNam (i : Nat) : UG := fun d ρ C => C (ρ.set i (.dat d))
theorem jg_name (S : Ok cp G N sc k X) (i : Nat) (hN : N[i]? = some x := by rfl) (hx : LocC cp sc x := by first | exact Or.inl rfl | exact Or.inr ⟨rfl, rfl⟩) : JG τ X (.Name x p2) (gNam i) := fun d ρ C c H0 γ σ H v r h Q q =>
  wpG_of (pg_name (i := i) (by rw [S.eN]; exact S.nd) (by rw [S.eN]; exact hN) (loc_of S hx) (fn_of_loc S hx)) (q _ _ c (r.setDat h) fun a z => (own_set z).elim id fun q => by cases q.1)
def gsNil : UGs := fun ds ρ C => match ds with
  | [] => C ρ
  | _ => False
def gsCons (g : UG) (gs : UGs) : UGs := fun ds ρ C => match ds with
  | d :: ds => g d ρ fun ρ' => gs ds ρ' C
  | [] => False
theorem jgs_nil : JGs τ X [] gsNil := fun ds ρ C c H0 γ σ H vs r h Q q => by
  cases ds with
  | nil =>
    cases h
    exact wpGs_of pgs_nil ⟨rfl, q ρ σ c r fun _ z => z⟩
  | cons d ds => exact c.elim
theorem jgs_cons {ts : List Expr} (h1 : JG τ X tg g) (h2 : JGs τ X ts gs) (hs : (assignEach (tg :: ts) X.env).map (·.2) = assign tg X.env :: (assignEach ts X.env).map (·.2) := by rfl) : JGs τ X (tg :: ts) (gsCons g gs) := fun ds ρ C c H0 γ σ H vs r h Q q => by
  cases ds with
  | nil => exact c.elim
  | cons d ds =>
    cases h with
    | cons hd ht =>
      exact wpGs_of (pgs_cons pg_w pgs_w hs) ⟨_, _, rfl, h1 d ρ _ c H0 γ σ H _ r hd _ fun ρ' σ' c r' sub => h2 ds ρ' C c H0 γ σ' H _ r' (dpAll_same (res_mono fun a o n e => ⟨fun z => n (sub a z), e⟩) _ _ ht) Q fun ρ2 σ2 c r2 sub2 => q ρ2 σ2 c r2 fun a z => sub a (sub2 a z)⟩
def gTupl (n : Nat) (gs : UGs) : UG := fun d ρ C => match d with
  | .tuple ds => ds.length = n ∧ gs ds ρ C
  | _ => False
theorem jg_tup {kk n : Nat} (S : Ok cp G N sc k X) (h : JGs τ X es gs) (hn : (assignEach es X.env).length = n := by rfl) (hst : (assignEach es X.env).findIdx? (·.1) = none := by rfl) : JG τ X (.Tuple es kk pos) (gTupl n gs) := fun d ρ C c H0 γ σ H v r hd Q q => by
  unfold gTupl at c
  split at c
  · rename_i ds
    cases hd with
    | tup hs ha =>
      exact wpG_of (pg_tup S.calm pgs_w hn hst) ⟨_, _, rfl, sqT_same res_le hs, (dpAll_len ha).trans c.1, h ds ρ C c.2 H0 γ σ H _ r ha Q q⟩
  · exact c.elim
def sAsg (tv : UV) (g : UG) : US := fun E ρ => tv ρ fun d => g d ρ E.nx
theorem js_asg (he : JD τ X e tv) (hg : JG τ X tg g) (hs : swapsWithSole [tg] e pos.line X.env = pure false := by rfl) (hw : swappedStores [tg] e X.env = pure none := by rfl)
    (h1 : (assignEach [tg] X.env).map (·.2) = [assign tg X.env] := by rfl) : JS τ X (.Assign [tg] e pos) (sAsg tv g) := fun ρ E c H0 γ σ H r Dn d =>
  wpS_of (ps_asg pe_w pg_w hs hw h1) (he ρ _ c H0 γ σ H r _ fun dd v H2 c e1 h => hg dd ρ _ c H0 γ σ H2 v (r.after e1) h _ fun ρ' σ' c r' _ => d.nx ρ' σ' H2 c r')
theorem swapped_env {ts : List Expr} {v : Expr} {env : Env} (h : env.scope = sc) : swappedStores ts v env = swappedStores ts v { (default : Env) with scope := sc } := by
  obtain ⟨s, l, gl, cl, q, f, cd, fr, bu⟩ := env
  simp only at h
  subst h
  rfl
def sPar2 (i j : Nat) (te ue : UE) : US := fun E ρ => te ρ fun r1 => ue ρ fun r2 => r1.lf = true ∧ r2.lf = true ∧ E.nx ((ρ.set i r1.sl).set j r2.sl)
theorem js_par2 {px py pt pt2 : Pos} {kt k2 : Nat} (S : Ok cp G N sc k X) (i j : Nat) (ha : JE τ X e te) (hb : JE τ X e2 ue) (hi : N[i]? = some x := by rfl) (hj : N[j]? = some y := by rfl) (hij : i ≠ j := by decide)
    (hx : sc.names.lookup x = some .local := by rfl) (hy : sc.names.lookup y = some .local := by rfl)
    (hw : swappedStores [.Tuple [.Name x px, .Name y py] kt pt] (.Tuple [e, e2] k2 pt2) { (default : Env) with scope := sc } = pure (some [x, y]) := by rfl)
    (hs : swapsWithSole [.Tuple [.Name x px, .Name y py] kt pt] (.Tuple [e, e2] k2 pt2) pos.line X.env = pure false := by rfl) (hst : starEach [e, e2] X.env = (false, eval e X.env) :: starEach [e2] X.env := by rfl) (hst2 : starEach [e2] X.env = (false, eval e2 X.env) :: starEach [] X.env := by rfl) :
    JS τ X (.Assign [.Tuple [.Name x px, .Name y py] kt pt] (.Tuple [e, e2] k2 pt2) pos) (sPar2 i j te ue) := fun ρ E c H0 γ σ H r Dn d =>
  wpS_of (ps_par (i := i) (j := j) S.calm (by rw [S.eN]; exact S.nd) (by rw [S.eN]; exact hi) (by rw [S.eN]; exact hj) hij (by rw [S.es]; exact hx) (by rw [S.es]; exact hy) (pa_cons pe_w (pa_cons pe_w pa_nil hst2) hst) ((swapped_env S.es).trans hw) hs)
    (ha ρ _ c H0 γ σ H r _ fun r1 v1 H2 c e1 h1 => hb ρ _ c H0 γ σ H2 (r.after e1) _ fun r2 v2 H3 c e2 h2 => ⟨v1, v2, rfl, d.nx _ _ H3 c.2.2 ((r.set e1 h1).set e2 (RsOk.beside r e1 e2 h1 c.2.1 h2))⟩)
def sPar3 (i j l : Nat) (te ue we : UE) : US := fun E ρ => te ρ fun r1 => ue ρ fun r2 => we ρ fun r3 => r1.lf = true ∧ r2.lf = true ∧ r3.lf = true ∧ E.nx (((ρ.set i r1.sl).set j r2.sl).set l r3.sl)
theorem js_par3 {px py pz pt pt2 : Pos} {kt k2 : Nat} (S : Ok cp G N sc k X) (i j l : Nat) (ha : JE τ X e te) (hb : JE τ X e2 ue) (hc : JE τ X e3 we) (hi : N[i]? = some x := by rfl) (hj : N[j]? = some y := by rfl) (hl : N[l]? = some z := by rfl) (hij : i ≠ j := by decide) (hil : i ≠ l := by decide) (hjl : j ≠ l := by decide)
    (hx : sc.names.lookup x = some .local := by rfl) (hy : sc.names.lookup y = some .local := by rfl) (hz : sc.names.lookup z = some .local := by rfl)
    (hw : swappedStores [.Tuple [.Name x px, .Name y py, .Name z pz] kt pt] (.Tuple [e, e2, e3] k2 pt2) { (default : Env) with scope := sc } = pure (some [x, y, z]) := by rfl)
    (hs : swapsWithSole [.Tuple [.Name x px, .Name y py, .Name z pz] kt pt] (.Tuple [e, e2, e3] k2 pt2) pos.line X.env = pure false := by rfl) (hst : starEach [e, e2, e3] X.env = (false, eval e X.env) :: starEach [e2, e3] X.env := by rfl) (hst2 : starEach [e2, e3] X.env = (false, eval e2 X.env) :: starEach [e3] X.env := by rfl) (hst3 : starEach [e3] X.env = (false, eval e3 X.env) :: starEach [] X.env := by rfl) :
    JS τ X (.Assign [.Tuple [.Name x px, .Name y py, .Name z pz] kt pt] (.Tuple [e, e2, e3] k2 pt2) pos) (sPar3 i j l te ue we) := fun ρ E c H0 γ σ H r Dn d =>
  wpS_of (ps_par3 (i := i) (j := j) (l := l) S.calm (by rw [S.eN]; exact S.nd) (by rw [S.eN]; exact hi) (by rw [S.eN]; exact hj) (by rw [S.eN]; exact hl) hij hil hjl (by rw [S.es]; exact hx) (by rw [S.es]; exact hy) (by rw [S.es]; exact hz) (pa_cons pe_w (pa_cons pe_w (pa_cons pe_w pa_nil hst3) hst2) hst) ((swapped_env S.es).trans hw) hs)
    (ha ρ _ c H0 γ σ H r _ fun r1 v1 H2 c e1 h1 => hb ρ _ c H0 γ σ H2 (r.after e1) _ fun r2 v2 H3 c e2 h2 => hc ρ _ c H0 γ σ H3 ((r.after e1).after e2) _ fun r3 v3 H4 c e3 h3 => ⟨v1, v2, v3, rfl, d.nx _ _ H4 c.2.2.2 (by
      have s1 := r.set (i := i) e1 h1
      have g2 := RsOk.beside (i := i) r e1 e2 h1 c.2.1 h2
      have s2 := s1.set (i := j) e2 g2
      have g3 := RsOk.beside (i := i) r (e1.trans e2) e3 (h1.after r e2) c.2.2.1 h3
      exact s2.set e3 (RsOk.beside (i := j) s1 e2 e3 g2 c.2.2.1 g3))⟩)
def sAug (i : Nat) (f : D → D → (D → Prop) → Prop) (tv : UV) : US := fun E ρ => match ρ[i]? with
  | some (.dat x) => tv ρ fun y => f x y fun z => E.nx (ρ.set i (.dat z))
  | _ => False
theorem js_aug {op : Operator} {ti : TIp} {f : D → D → (D → Prop) → Prop} (S : Ok cp G N sc k X) (i : Nat) (ho : PIp X op ti) (hf : Op2 X ti f) (he : JV τ X e tv) (hN : N[i]? = some x := by rfl) (hx : LocC cp sc x := by first | exact Or.inl rfl | exact Or.inr ⟨rfl, rfl⟩) :
    JS τ X (.AugAssign (.Name x p2) op e pos) (sAug i f tv) := fun ρ E c H0 γ σ H r Dn d => by
  refine wpS_of (ps_aug (i := i) (by rw [S.eN]; exact S.nd) (by rw [S.eN]; exact hN) (loc_of S hx) pe_w ho (fn_of_loc S hx)) ?_
  unfold sAug at c
  split at c
  · rename_i dd hi
    obtain ⟨v, e, h⟩ := r.sl i _ hi
    refine ⟨v, e, he ρ _ c H0 γ σ H r _ fun dy vy H2 c e1 h1 => hf _ _ _ _ _ _ _ _ _ _ _ (r.after e1) ((bo_of res_own_ad h).after e1) h1 c _ fun dz vz H3 c e2 h2 => d.nx _ _ H3 c (((r.after e1).after e2).setDat h2)⟩
  · exact c.elim
theorem pip_of {op : Operator} {r : R2} (h : OpR X (inplaceOp op) r) : PIp X op r := fun pins s σ H x y v u Q I r1 r2 q => h pins s σ H x y v u Q I r1 r2 q
abbrev rI0i (g : Int → Int → Int) : R2 := rI0 fun i j => .int (g i j)
def fI0 (g : Int → Int → Int) : D → D → (D → Prop) → Prop
  | .int i, .int j, C => C (.int (g i j))
  | _, _, _ => False
theorem fI0_ok {g : Int → Int → Int} : Op2 X (rI0i g) (fI0 g) := fun τ H0 H γ σ ρ v1 v2 d1 d2 C r b1 b2 h Q q => by
  cases d1 <;> cases d2 <;> first | exact h.elim | skip
  cases b1; cases b2
  exact ⟨_, _, rfl, rfl, q _ _ H h .refl (.int _)⟩
theorem js_iadd (S : Ok cp G N sc k X) (i : Nat) (he : JV τ X e tv) (hN : N[i]? = some x := by rfl) (hx : LocC cp sc x := by first | exact Or.inl rfl | exact Or.inr ⟨rfl, rfl⟩) : JS τ X (.AugAssign (.Name x p2) .Add e pos) (sAug i (fI0 fun i j => i + j) tv) := js_aug S i (pip_of iop_add) fI0_ok he hN hx
theorem js_isub (S : Ok cp G N sc k X) (i : Nat) (he : JV τ X e tv) (hN : N[i]? = some x := by rfl) (hx : LocC cp sc x := by first | exact Or.inl rfl | exact Or.inr ⟨rfl, rfl⟩) : JS τ X (.AugAssign (.Name x p2) .Sub e pos) (sAug i (fI0 fun i j => i - j) tv) := js_aug S i (pip_of iop_sub) fI0_ok he hN hx
theorem js_imul (S : Ok cp G N sc k X) (i : Nat) (he : JV τ X e tv) (hN : N[i]? = some x := by rfl) (hx : LocC cp sc x := by first | exact Or.inl rfl | exact Or.inr ⟨rfl, rfl⟩) : JS τ X (.AugAssign (.Name x p2) .Mult e pos) (sAug i fMul tv) := js_aug S i (pip_of iop_mul) (fInt_ok fun _ _ h => h) he hN hx
/-! ### a list of one's own, changed -/
theorem Rep.change {K : PySem.W.Frag} {H0 H : Hp} {γ : List (V × D)} {σ : St} {ρ : En} {i : Nat} {p : Addr} {o : HO} {s s' : Sl} (r : Rep K τ H0 γ H σ ρ) (hi : ρ[i]? = some s) (hs : s.isOwn = true) (hs' : s'.isOwn = true) (hv : σ[i]? = some (some (.ref p))) (hn : ¬ τ.ad p)
    (h0 : H0 p = none) (h : SlOk K τ H0 (upd H p o) (res H (own τ σ ρ)) (some (some (.ref p))) s') : Rep K τ H0 γ (upd H p o) σ (ρ.set i s') := by
  have hil : i < ρ.length := (List.getElem?_eq_some_iff.mp hi).1
  have so : ∀ a, own τ σ (ρ.set i s') a ↔ own τ σ ρ a := fun a => by
    constructor
    · rintro (z | ⟨j, u, h1, h2, h3⟩)
      · exact .inl z
      · by_cases e : i = j
        · subst e
          exact .inr ⟨i, s, hi, hs, h3⟩
        · exact .inr ⟨j, u, set_other e h1, h2, h3⟩
    · rintro (z | ⟨j, u, h1, h2, h3⟩)
      · exact .inl z
      · by_cases e : i = j
        · subst e
          exact .inr ⟨i, s', List.getElem?_set_self hil, hs', h3⟩
        · exact .inr ⟨j, u, by rw [List.getElem?_set_ne e]; exact h1, h2, h3⟩
  have op : own τ σ ρ p := .inr ⟨i, s, hi, hs, hv⟩
  have le : Same (res H (own τ σ ρ)) (res (upd H p o) (own τ σ (ρ.set i s'))) := res_mono fun a u n e => by
    have hne : a ≠ p := fun z => n (by rw [z]; exact op)
    exact ⟨fun z => n ((so a).mp z), by rw [upd_ne hne]; exact e⟩
  refine ⟨by simp [r.len], fun a u e n => ?_, ?_, fun j u hu => ?_, fun j l u w b h1 h2 h3 h4 h5 h6 => ?_, fun q hq => dp_same le _ _ (r.gh q hq), r.zz⟩
  · rw [upd_ne (ne_of_none e h0)]
    exact r.ext a u e n
  · refine τ.dep (fun a u ea ha => ?_) r.inv
    rw [upd_ne fun z => ?_]
    · exact ea
    · rcases ha with ha | ha
      · exact hn (by rw [← z]; exact ha)
      · have q := r.sl i s hi
        rw [hv] at q
        cases s with
        | lst ds =>
          obtain ⟨b, vs, e, _, _, e2, _⟩ := q
          cases e
          rw [z, e2] at ea; cases ea
          exact ha trivial
        | dic kds =>
          obtain ⟨b, vs, e, _, _, e2, _⟩ := q
          cases e
          rw [z, e2] at ea; cases ea
          exact ha trivial
        | un => cases hs
        | dat d => cases hs
        | town => cases hs
        | ldc kds => cases hs
        | dtc kds =>
          obtain ⟨b, vs, e, _, _, e2, _⟩ := q
          cases e
          rw [z, e2] at ea; cases ea
          exact ha trivial
        | th x =>
          obtain ⟨b, o, e, _, _, e2, e3⟩ := q
          cases e
          rw [z, e2] at ea; cases ea
          exact ha e3.lk
        | tv x => cases hs
        | tl x => cases hs
        | dls m =>
          obtain ⟨b, kvs, e, _, _, e2, _⟩ := q
          cases e
          rw [z, e2] at ea; cases ea
          exact ha trivial
  · by_cases e : i = j
    · subst e
      obtain ⟨rfl, _⟩ := set_here hu
      rw [hv]
      exact SlOk.mono le (fun _ _ _ _ _ q => q) h
    · have hu' := set_other e hu
      refine SlOk.mono le (fun hou a u2 ea na q => ?_) (r.sl j u hu')
      have hne : a ≠ p := fun z => by
        rcases ea with ea | ⟨ws, eo⟩
        · exact e (r.sep i j s u p hi hu' hs hou hv (by rw [ea, z]))
        · rw [z, eo] at q
          rw [z] at q
          exact r.notL hi hs hv q
      rw [upd_ne hne]; exact q
  · have back : ∀ (j : Nat) (u : Sl), (ρ.set i s')[j]? = some u → u.isOwn = true → ∃ u', ρ[j]? = some u' ∧ u'.isOwn = true := fun j u hu ho => by
      by_cases e : i = j
      · subst e; exact ⟨s, hi, hs⟩
      · exact ⟨u, set_other e hu, ho⟩
    obtain ⟨u', g1, g2⟩ := back j u h1 h3
    obtain ⟨w', g3, g4⟩ := back l w h2 h4
    exact r.sep j l u' w' b g1 g3 g2 g4 h5 h6
end
end Pu
namespace Pu
open PySem PySem.Spec PyProof.Rows L2
theorem slice_line {n : Nat} (h : n ≤ 1000000) : n < sizeLine := Nat.lt_of_le_of_lt h (by decide)
section
variable {τ : Tn} {G : Gx} {cp : List Str} {N : List Str} {sc : Scope} {k : Nat} {X : Cx} {e e2 e3 tg iter : Expr} {es : List Expr} {st : Stmt} {rest a b body : List Stmt} {t u : US} {tv tw : UV} {te ue we : UE} {tt : UT} {g : UG} {gs : UGs} {pos p2 p3 apos : Pos} {x y z : Str}
/-! ### append, extend, pop -/
def sAppend (i : Nat) (tv : UV) : US := fun E ρ => match ρ[i]? with
  | some (.lst ds) => tv ρ fun d => ds.length ≤ 1000000 ∧ E.nx (ρ.set i (.lst (ds ++ [d])))
  | _ => False
theorem js_append (S : Ok cp G N sc k X) (i : Nat) (he : JD τ X e tv) (hN : N[i]? = some x := by rfl) (hv : Vis sc x := by first | exact Or.inl rfl | exact Or.inr (Or.inl rfl) | exact Or.inr (Or.inr rfl)) (hd : (x == ("__debug__" : Str)) = false := by decide) (hcd : (x == ("__classdict__" : Str)) = false := by decide)
    (hfew : ((backTo p3 (starEach [e] X.env)).all (fun x => !x.1) && (backToKw p3 (keywordEach [] X.env)).all (fun x => x.1.isSome) && decide ([e].length + ([] : List Keyword).length + (if ([] : List Keyword).isEmpty then 0 else 1) < 30)) = true := by rfl)
    (hline : (apos.endLine == p3.line) = true := by rfl) (hst : starEach [e] X.env = (false, eval e X.env) :: starEach [] X.env := by rfl) :
    JS τ X (.Expr (.Call (.Attribute (.Name x p2) "append" apos) [e] [] p3) pos) (sAppend i tv) := fun ρ E c H0 γ σ H r Dn d => by
  refine wpS_of (ps_expr (pe_bm PySem.F.plainAttrs_list PySem.F.slot_list_append PySem.F.type_list_append mt_append (pe_var (i := i) (by rw [S.eN]; exact hN) (by rw [S.es]; exact hv) hd hcd) (pa_cons pe_w pa_nil hst) rfl hfew hline hst rfl)) ?_
  unfold sAppend at c
  split at c
  · rename_i ds hi
    obtain ⟨p, vs, e0, h0, hn, h, h'⟩ := r.sl i _ hi
    refine ⟨_, e0, .inl ⟨rfl, vs, .inl (.inl h)⟩, he ρ _ c H0 γ σ H r _ fun dd v H2 c e1 h1 => ?_⟩
    refine ⟨p, vs, v, rfl, rfl, e1.kp p _ h hn, ?_, d.nx _ _ _ c.2 ?_⟩
    · rw [dpAll_len h']; exact slice_line c.1
    · exact (r.after e1).change hi rfl rfl e0 hn h0 ⟨p, _, rfl, h0, hn, upd_same, dpAll_append (dpAll_after e1 h') (.cons h1 .nil)⟩
  · exact c.elim
/-- x.extend(a new list) -/
def sExtend (i : Nat) (te : UE) : US := fun E ρ => match ρ[i]? with
  | some (.lst ds) => te ρ fun r => match r with
    | .lst es => ds.length + es.length ≤ 1000000 ∧ E.nx (ρ.set i (.lst (ds ++ es)))
    | _ => False
  | _ => False
theorem js_extend (S : Ok cp G N sc k X) (i : Nat) (he : JE τ X e te) (hN : N[i]? = some x := by rfl) (hv : Vis sc x := by first | exact Or.inl rfl | exact Or.inr (Or.inl rfl) | exact Or.inr (Or.inr rfl)) (hd : (x == ("__debug__" : Str)) = false := by decide) (hcd : (x == ("__classdict__" : Str)) = false := by decide)
    (hfew : ((backTo p3 (starEach [e] X.env)).all (fun x => !x.1) && (backToKw p3 (keywordEach [] X.env)).all (fun x => x.1.isSome) && decide ([e].length + ([] : List Keyword).length + (if ([] : List Keyword).isEmpty then 0 else 1) < 30)) = true := by rfl)
    (hline : (apos.endLine == p3.line) = true := by rfl) (hst : starEach [e] X.env = (false, eval e X.env) :: starEach [] X.env := by rfl) :
    JS τ X (.Expr (.Call (.Attribute (.Name x p2) "extend" apos) [e] [] p3) pos) (sExtend i te) := fun ρ E c H0 γ σ H r Dn d => by
  refine wpS_of (ps_expr (pe_bm PySem.F.plainAttrs_list PySem.F.slot_list_extend PySem.F.type_list_extend mt_extend (pe_var (i := i) (by rw [S.eN]; exact hN) (by rw [S.es]; exact hv) hd hcd) (pa_cons pe_w pa_nil hst) rfl hfew hline hst rfl)) ?_
  unfold sExtend at c
  split at c
  · rename_i ds hi
    obtain ⟨p, vs, e0, h0, hn, h, h'⟩ := r.sl i _ hi
    refine ⟨_, e0, .inl ⟨rfl, vs, .inl (.inl h)⟩, he ρ _ c H0 γ σ H r _ fun rs v H2 c e1 h1 => ?_⟩
    cases rs with
    | dat _ => exact c.elim
    | dic _ => exact c.elim
    | th _ => exact c.elim
    | dll _ => exact c.elim
    | lst es =>
      obtain ⟨q, ws, rfl, hq, hq2, ha⟩ := h1
      refine ⟨p, q, vs, ws, rfl, rfl, e1.kp p _ h hn, hq2, ?_, d.nx _ _ _ c.2 ?_⟩
      · rw [dpAll_len h', dpAll_len ha]; exact small_line c.1
      · exact (r.after e1).change hi rfl rfl e0 hn h0 ⟨p, _, rfl, h0, hn, upd_same, dpAll_append (dpAll_after e1 h') (dpAll_same (res_mono fun b o n eb => ⟨fun z => n (.inl z), eb⟩) _ _ ha)⟩
  · exact c.elim
/-- target = x.pop() -/
def sPop (i : Nat) (g : UG) : US := fun E ρ => match ρ[i]? with
  | some (.lst ds) => ∃ d, ds[ds.length - 1]? = some d ∧ g d (ρ.set i (.lst ds.dropLast)) E.nx
  | _ => False
theorem dpAll_dropLast {K : PySem.W.Frag} {H : Hp} {vs : List V} {ds : List D} (h : DpAll K H vs ds) : DpAll K H vs.dropLast ds.dropLast := by
  rw [List.dropLast_eq_take, List.dropLast_eq_take, dpAll_len h]
  exact dpAll_take _ h
theorem js_pop (S : Ok cp G N sc k X) (i : Nat) (hg : JG τ X tg g) (hN : N[i]? = some x := by rfl) (hv : Vis sc x := by first | exact Or.inl rfl | exact Or.inr (Or.inl rfl) | exact Or.inr (Or.inr rfl)) (hd : (x == ("__debug__" : Str)) = false := by decide) (hcd : (x == ("__classdict__" : Str)) = false := by decide)
    (hline : (apos.endLine == p3.line) = true := by rfl)
    (hs : swapsWithSole [tg] (.Call (.Attribute (.Name x p2) "pop" apos) [] [] p3) pos.line X.env = pure false := by rfl) (hw : swappedStores [tg] (.Call (.Attribute (.Name x p2) "pop" apos) [] [] p3) X.env = pure none := by rfl)
    (h1 : (assignEach [tg] X.env).map (·.2) = [assign tg X.env] := by rfl) :
    JS τ X (.Assign [tg] (.Call (.Attribute (.Name x p2) "pop" apos) [] [] p3) pos) (sPop i g) := fun ρ E c H0 γ σ H r Dn d => by
  refine wpS_of (ps_asg (pe_bm0 PySem.F.plainAttrs_list PySem.F.slot_list_pop PySem.F.type_list_pop mt_pop (pe_var (i := i) (by rw [S.eN]; exact hN) (by rw [S.es]; exact hv) hd hcd) rfl hline) pg_w hs hw h1) ?_
  unfold sPop at c
  split at c
  · rename_i ds hi
    obtain ⟨p, vs, e0, h0, hn, h, h'⟩ := r.sl i _ hi
    obtain ⟨dd, hd1, c⟩ := c
    obtain ⟨v, hv1, hdp⟩ := dpAll_get h' hd1
    have r2 := r.change (o := .lst vs.dropLast) (s' := .lst ds.dropLast) hi rfl rfl e0 hn h0 ⟨p, _, rfl, h0, hn, upd_same, dpAll_dropLast h'⟩
    refine ⟨_, e0, .inl ⟨rfl, vs, .inl (.inl h)⟩, p, vs, v, rfl, rfl, h, by rw [dpAll_len h']; exact hv1, ?_⟩
    refine hg dd _ _ c H0 γ σ _ v r2 ?_ _ fun ρ' σ' c r' _ => d.nx ρ' σ' _ c r'
    have op : own τ σ ρ p := .inr ⟨i, _, hi, rfl, e0⟩
    refine dp_same (res_mono fun b o n q => ?_) _ _ hdp
    have hb : b ≠ p := fun z => n (by rw [z]; exact op)
    refine ⟨fun z => n ?_, by rw [upd_ne hb]; exact q⟩
    rcases z with z | ⟨j, u, g1, g2, g3⟩
    · exact .inl z
    · by_cases ej : i = j
      · subst ej; exact .inr ⟨i, _, hi, rfl, g3⟩
      · exact .inr ⟨j, u, set_other ej g1, g2, g3⟩
  · exact c.elim
/-! ### while -/
def whC (tt : UT) (tb : US) (E : Ed) : Nat → En → Prop
  | 0, _ => False
  | n + 1, ρ => tt ρ fun z => (z = true → tb { E with nx := whC tt tb E n, ct := whC tt tb E n, bk := E.nx } ρ) ∧ (z = false → E.nx ρ)
def sWhile (tt : UT) (tb : US) : US := fun E ρ => ∃ n, whC tt tb E n ρ
theorem js_while (S : Ok cp G N sc k X) (hc : JT τ X e tt) (hb : JSs τ X body t) : JS τ X (.While e body [] pos) (sWhile tt t) := fun ρ E c H0 γ σ H r Dn d => by
  obtain ⟨n, c⟩ := c
  refine wpS_of (ps_while S.po pt_w pss_w) ⟨fun m σ' H' => ∃ ρ', Rep X.K τ H0 γ H' σ' ρ' ∧ whC tt t E m ρ', ⟨n, ρ, r, c⟩, fun m σ' H' ⟨ρ', r', c⟩ => ?_⟩
  cases m with
  | zero => exact c.elim
  | succ m =>
    refine hc ρ' _ c H0 γ σ' H' r' _ fun z H2 c e1 => ?_
    cases z with
    | false => exact iteF (d.nx ρ' σ' H2 (c.2 rfl) (r'.after e1))
    | true =>
      refine iteT ⟨fun σ2 H3 => ∃ ρ2, Rep X.K τ H0 γ H3 σ2 ρ2 ∧ whC tt t E m ρ2, fun σ2 H3 h => ⟨m, Nat.lt_succ_self m, h⟩, ?_⟩
      exact hb ρ' _ (c.1 rfl) H0 γ σ' H2 (r'.after e1) _ ⟨fun ρ2 σ2 H3 c r2 => ⟨ρ2, r2, c⟩, d.nx, fun ρ2 σ2 H3 c r2 => ⟨ρ2, r2, c⟩, d.rt⟩
/-! ### what is walked -/
structure ItOk (K : PySem.W.Frag) (τ : Tn) (J : It) (γ' : List (V × D)) (ds : List D) : Prop where
  go : ∀ (H : Hp) (ow : Addr → Prop), (∀ p ∈ γ', Bo K τ H (res H ow) p.1 p.2) → ∀ i, i < ds.length → J.go i H
  yld : ∀ (H : Hp) (ow : Addr → Prop), (∀ p ∈ γ', Bo K τ H (res H ow) p.1 p.2) → (∀ a, H a = none → ¬ ow a) → ∀ (i : Nat) (d : D), ds[i]? = some d → ∀ x H4, J.yld i H x H4 → Same H H4 ∧ Dp K (res H4 ow) x d
  stop : ∀ (H : Hp) (ow : Addr → Prop), (∀ p ∈ γ', Bo K τ H (res H ow) p.1 p.2) → ∀ i, ds.length ≤ i → J.stop i H
/-- for a loop (what is walked must stay) | for a comprehension -/
def JI (τ : Tn) (X : Cx) (tg iter : Expr) (t : UL) : Prop := ∀ (ρ : En) (C : List D → Prop), t ρ C → ∀ (H0 : Hp) (γ : List (V × D)) (σ : St) (H : Hp), Rep X.K τ H0 γ H σ ρ → ∀ R : It → Hp → Prop,
  (∀ J γ' ds H2, C ds → Ext τ H H2 → (∀ p ∈ γ', Dp X.K (res H2 (own τ σ ρ)) p.1 p.2) → ItOk X.K τ J γ' ds → ds.length ≤ sizeLine → R J H2) → wpI X tg iter σ H R
def JIx (τ : Tn) (X : Cx) (tg iter : Expr) (t : UL) : Prop := ∀ (ρ : En) (C : List D → Prop), t ρ C → ∀ (H0 : Hp) (γ : List (V × D)) (σ : St) (H : Hp), Rep X.K τ H0 γ H σ ρ → ∀ R : It → Hp → Prop,
  (∀ J γ' ds H2, C ds → Ext τ H H2 → (∀ p ∈ γ', Bo X.K τ H2 (res H2 (own τ σ ρ)) p.1 p.2) → ItOk X.K τ J γ' ds → ds.length ≤ sizeLine → R J H2) → wpI X tg iter σ H R
theorem jix_of {tl : UL} (h : JI τ X tg iter tl) : JIx τ X tg iter tl := fun ρ C c H0 γ σ H r R q => h ρ C c H0 γ σ H r R fun J γ' ds H2 c e g o l => q J γ' ds H2 c e (fun p hp => bo_of res_own_ad (g p hp)) o l
theorem wpI_size {σ : St} {H : Hp} {R : It → Hp → Prop} (h : wpI X tg iter σ H fun J H2 => (∀ a xs, SqL X.K H2 a xs → xs.length ≤ sizeLine) → (∀ a xs, SqT X.K H2 a xs → xs.length ≤ sizeLine) → R J H2) : wpI X tg iter σ H R := by
  unfold wpI at h ⊢
  exact fun pins s I => thn (h pins s I) fun v s1 h1 => thn h1 fun itv s2 ⟨it, fp, tn, J, H', e, I', T, st, f, q⟩ => ⟨it, fp, tn, J, H', e, I', T, st, f, q (fun a xs hs => let ⟨_, _, _, z⟩ := I'.list hs; z) fun a xs hs => let ⟨_, _, _, z⟩ := I'.tuple hs; z⟩
/-- the signs of a text -/
def signsD (x : Str) : List D := x.cps.toList.map fun c => .str ⟨#[c]⟩
theorem signsD_len {x : Str} : (signsD x).length = x.cps.size := by simp [signsD]
/-- over a list, a tuple or a text -/
def iSeqU (K : PySem.W.Frag) (tl : TE) : TI := fun σ H R => tl σ H fun x H1 => (∃ a, x = .ref a ∧ (∃ xs, SqL K H1 a xs) ∧ R (Itl K a) H1) ∨ (∃ a, x = .ref a ∧ (∃ xs, SqT K H1 a xs) ∧ R (Itt K a) H1) ∨ ∃ y, x = .str y ∧ R (Its y) H1
theorem pi_seqU {l : Expr} {tl : TE} (hl : PE X l tl) : PI X tg l (iSeqU X.K tl) := by
  refine ⟨fun pins s σ H R I h => ?_⟩
  refine thn (hl.run pins s σ H _ I h) fun v s1 ⟨x, H1, I1, r1, q1⟩ => ?_
  have fresh : ∀ b ∈ [s1.heap.objs.size], FpOk X pins H1 b := fun b hb => by
    have e : b = s1.heap.objs.size := by simpa using hb
    subst e
    exact I1.fpOk (Nat.le_refl _) (I1.hok.fresh (Nat.le_refl _))
  rcases q1 with ⟨a, e, ⟨xs, hq⟩, q⟩ | ⟨a, e, ⟨xs, hq⟩, q⟩ | ⟨y, e, q⟩
  · subst e
    cases r1
    obtain ⟨its, rv, p, hz⟩ := I1.list hq
    exact wpAny_pyIter_list p.isList ⟨s1.heap.objs.size, [s1.heap.objs.size], _, _, H1, rfl, I1.kept (t' := s1.toks) fun b o e => Heap.get?_push_of_some _ e, turn_list a _, ⟨_, Heap.get?_push_size _ rfl, rfl, rfl⟩, fresh, q⟩
  · subst e
    cases r1
    obtain ⟨its, rv, p, hz⟩ := I1.tuple hq
    exact wpAny_pyIter_tuple (show s1.heap.IsTuple a its.toArray from p) ⟨s1.heap.objs.size, [s1.heap.objs.size], _, _, H1, rfl, I1.kept (t' := s1.toks) fun b o e => Heap.get?_push_of_some _ e, turn_tuple a _, ⟨_, Heap.get?_push_size _ rfl, rfl, rfl⟩, fresh, q⟩
  · subst e
    obtain ⟨t, rfl⟩ := r1
    cases hw : y.cps.all (· < 128)
    · exact wpAny_pyIter_wide hw (pi_one (tk := s1.toks) I1 _ (turn_str _ y t "str_iterator" (.inr rfl)) ⟨_, Heap.get?_push_size _ rfl, rfl, rfl⟩ q)
    · exact wpAny_pyIter_ascii hw (pi_one (tk := s1.toks) I1 _ (turn_str _ y t "str_ascii_iterator" (.inl rfl)) ⟨_, Heap.get?_push_size _ rfl, rfl, rfl⟩ q)
theorem itOk_list {K : PySem.W.Frag} {a : Addr} {ds : List D} : ItOk K τ (Itl K a) [(.ref a, .list ds)] ds where
  go := fun H ow g i hi => by
    obtain ⟨p, vs, e, hs, ha⟩ := g _ (List.mem_singleton.mpr rfl)
    cases e
    obtain ⟨v, hv, _⟩ := dpAll_get ha (List.getElem?_eq_getElem hi)
    exact ⟨vs, v, sqL_same res_le hs, hv⟩
  yld := fun H ow g hn i d hd x H4 hy => by
    obtain ⟨p, vs, e, hs, ha⟩ := g _ (List.mem_singleton.mpr rfl)
    cases e
    obtain ⟨rfl, hy⟩ := hy
    obtain ⟨v, hv, hdp⟩ := dpAll_get ha hd
    have := (hy vs (sqL_same res_le hs)).symm.trans hv
    cases this
    exact ⟨Same.refl _, hdp⟩
  stop := fun H ow g i hi => by
    obtain ⟨p, vs, e, hs, ha⟩ := g _ (List.mem_singleton.mpr rfl)
    cases e
    exact ⟨vs, sqL_same res_le hs, by rw [dpAll_len ha]; exact hi⟩
theorem itOk_tup {K : PySem.W.Frag} {a : Addr} {ds : List D} : ItOk K τ (Itt K a) [(.ref a, .tuple ds)] ds where
  go := fun H ow g i hi => by
    obtain ⟨p, vs, e, hs, ha⟩ := g _ (List.mem_singleton.mpr rfl)
    cases e
    obtain ⟨v, hv, _⟩ := dpAll_get ha (List.getElem?_eq_getElem hi)
    exact ⟨vs, v, sqT_same res_le hs, hv⟩
  yld := fun H ow g hn i d hd x H4 hy => by
    obtain ⟨p, vs, e, hs, ha⟩ := g _ (List.mem_singleton.mpr rfl)
    cases e
    obtain ⟨rfl, hy⟩ := hy
    obtain ⟨v, hv, hdp⟩ := dpAll_get ha hd
    have := (hy vs (sqT_same res_le hs)).symm.trans hv
    cases this
    exact ⟨Same.refl _, hdp⟩
  stop := fun H ow g i hi => by
    obtain ⟨p, vs, e, hs, ha⟩ := g _ (List.mem_singleton.mpr rfl)
    cases e
    exact ⟨vs, sqT_same res_le hs, by rw [dpAll_len ha]; exact hi⟩
theorem itOk_str {K : PySem.W.Frag} {x : Str} {g : List (V × D)} : ItOk K τ (Its x) g (signsD x) where
  go := fun H ow _ i hi => by
    rw [signsD_len] at hi
    exact hi
  yld := fun H ow _ hn i d hd v H4 hy => by
    obtain ⟨rfl, c, hc, rfl⟩ := hy
    unfold signsD at hd
    rw [List.getElem?_map, Array.getElem?_toList, hc] at hd
    cases hd
    exact ⟨fun _ _ e => e, .str _⟩
  stop := fun H ow _ i hi => by
    rw [signsD_len] at hi
    exact hi
def fSeq0 : D → (List D → Prop) → Prop
  | .list ds, C => C ds
  | .tuple ds, C => C ds
  | _, _ => False
def fSeq : D → (List D → Prop) → Prop
  | .list ds, C => C ds
  | .tuple ds, C => C ds
  | .str x, C => x.cps.size ≤ 1000000 ∧ C (signsD x)
  | _, _ => False
def iSeq (tv : UV) : UL := fun ρ C => tv ρ fun d => fSeq d C
theorem ji_seq (he : JD τ X iter tv) : JI τ X tg iter (iSeq tv) := fun ρ C c H0 γ σ H r R q =>
  wpI_size (wpI_of (pi_seqU pe_w) (he ρ _ c H0 γ σ H r _ fun d v H2 c e1 h => by
    cases h with
    | lst hs ha => exact .inl ⟨_, rfl, ⟨_, sqL_same res_le hs⟩, fun z1 z2 => q _ [(_, _)] _ H2 c e1 (fun p hp => by rw [List.mem_singleton.mp hp]; exact .lst hs ha) itOk_list (by rw [← dpAll_len ha]; exact z1 _ _ (sqL_same res_le hs))⟩
    | tup hs ha => exact .inr (.inl ⟨_, rfl, ⟨_, sqT_same res_le hs⟩, fun z1 z2 => q _ [(_, _)] _ H2 c e1 (fun p hp => by rw [List.mem_singleton.mp hp]; exact .tup hs ha) itOk_tup (by rw [← dpAll_len ha]; exact z2 _ _ (sqT_same res_le hs))⟩)
    | non => exact c.elim
    | bl _ => exact c.elim
    | int _ => exact c.elim
    | str x => exact .inr (.inr ⟨x, rfl, fun _ _ => q _ [] _ H2 c.2 e1 (fun p hp => by cases hp) itOk_str (by rw [signsD_len]; exact Nat.le_of_lt (slice_line c.1))⟩)))
theorem jix_seq (he : JV τ X iter tv) : JIx τ X tg iter (iSeq tv) := fun ρ C c H0 γ σ H r R q =>
  wpI_size (wpI_of (pi_seqU pe_w) (he ρ _ c H0 γ σ H r _ fun d v H2 c e1 h => by
    cases d with
    | list ds =>
      obtain ⟨p, vs, rfl, hs, ha⟩ := id h
      exact .inl ⟨_, rfl, ⟨_, sqL_same res_le hs⟩, fun z1 z2 => q _ [(_, _)] _ H2 c e1 (fun p hp => by rw [List.mem_singleton.mp hp]; exact h) itOk_list (by rw [← dpAll_len ha]; exact z1 _ _ (sqL_same res_le hs))⟩
    | tuple ds =>
      obtain ⟨p, vs, rfl, hs, ha⟩ := id h
      exact .inr (.inl ⟨_, rfl, ⟨_, sqT_same res_le hs⟩, fun z1 z2 => q _ [(_, _)] _ H2 c e1 (fun p hp => by rw [List.mem_singleton.mp hp]; exact h) itOk_tup (by rw [← dpAll_len ha]; exact z2 _ _ (sqT_same res_le hs))⟩)
    | none => exact c.elim
    | bool _ => exact c.elim
    | int _ => exact c.elim
    | str x =>
      cases h
      exact .inr (.inr ⟨x, rfl, fun _ _ => q _ [] _ H2 c.2 e1 (fun p hp => by cases hp) itOk_str (by rw [signsD_len]; exact Nat.le_of_lt (slice_line c.1))⟩)
    | dict _ => exact c.elim))
/-! ranges -/
def rngD (lo : Int) (n : Nat) : List D := (List.range n).map fun (i : Nat) => .int (lo + (i : Int))
theorem rngD_get {lo : Int} {n i : Nat} {d : D} (h : (rngD lo n)[i]? = some d) : i < n ∧ d = .int (lo + (i : Int)) := by
  unfold rngD at h
  rw [List.getElem?_map] at h
  cases q : (List.range n)[i]? with
  | none => rw [q] at h; cases h
  | some j =>
    rw [q] at h
    obtain ⟨h1, h2⟩ := List.getElem?_eq_some_iff.mp q
    rw [List.getElem_range] at h2
    subst h2
    exact ⟨by simpa using h1, (Option.some.inj h).symm⟩
theorem rngD_len {lo : Int} {n : Nat} : (rngD lo n).length = n := by simp [rngD]
theorem itOk_rng {K : PySem.W.Frag} {lo : Int} {n : Nat} : ItOk K τ (Itr lo n) [] (rngD lo n) where
  go := fun H ow g i hi => by rw [rngD_len] at hi; exact hi
  yld := fun H ow g hn i d hd x H4 hy => by
    obtain ⟨_, rfl⟩ := rngD_get hd
    obtain ⟨rfl, rfl⟩ := hy
    exact ⟨Same.refl _, .int _⟩
  stop := fun H ow g i hi => by rw [rngD_len] at hi; exact hi
def iRange1 (tv : UV) : UL := fun ρ C => tv ρ fun d => ∃ n, d = .int n ∧ n ≤ 1000000 ∧ -1000000000 ≤ n ∧ C (rngD 0 n.toNat)
theorem pow62 {n : Int} (h : n ≤ 1000000000000) (h2 : -1000000000000 ≤ n) : -(2 ^ 62) ≤ n ∧ n < 2 ^ 62 := by
  constructor <;> omega
theorem ji_range1 {p : Pos} (S : Ok cp G N sc k X) (hm : Free G "range") (he : JV τ X e tv) (hg : sc.names.lookup ("range" : Str) = some .globalImplicit := by rfl) (hs : starEach [e] X.env = [(false, eval e X.env)] := by rfl) : JI τ X tg (.Call (.Name "range" p) [e] [] pos) (iRange1 tv) := fun ρ C c H0 γ σ H r R q =>
  wpI_of (pi_range1 (by show X.env.scope.names.lookup _ = _; rw [S.es]; exact hg) (by rw [S.em]; exact hm) (pa_cons pe_w pa_nil (by rw [hs]; rfl)) hs) (he ρ _ c H0 γ σ H r _ fun d v H2 c e1 h => by
    obtain ⟨n, rfl, h1, h2, c⟩ := c
    cases h
    obtain ⟨a, b⟩ := pow62 (n := n) (by omega) (by omega)
    exact ⟨n, rfl, a, b, q _ [] _ H2 c e1 (fun p hp => by cases hp) itOk_rng (by rw [rngD_len]; exact small_line (by omega))⟩)
def iRange2 (tv tw : UV) : UL := fun ρ C => tv ρ fun d => tw ρ fun d2 => ∃ m n, d = .int m ∧ d2 = .int n ∧ n - m ≤ 1000000 ∧ -1000000000000 ≤ m ∧ m ≤ 1000000000000 ∧ -1000000000000 ≤ n ∧ n ≤ 1000000000000 ∧ C (rngD m (n - m).toNat)
theorem ji_range2 {p : Pos} (S : Ok cp G N sc k X) (hm : Free G "range") (he : JV τ X e tv) (he2 : JV τ X e2 tw) (hg : sc.names.lookup ("range" : Str) = some .globalImplicit := by rfl) (hs : starEach [e, e2] X.env = [(false, eval e X.env), (false, eval e2 X.env)] := by rfl) (hs2 : starEach [e2] X.env = [(false, eval e2 X.env)] := by rfl) :
    JI τ X tg (.Call (.Name "range" p) [e, e2] [] pos) (iRange2 tv tw) := fun ρ C c H0 γ σ H r R q =>
  wpI_of (pi_range2 (by show X.env.scope.names.lookup _ = _; rw [S.es]; exact hg) (by rw [S.em]; exact hm) (pa_cons pe_w (pa_cons pe_w pa_nil (by rw [hs2]; rfl)) (by rw [hs, hs2])) hs hs2) (he ρ _ c H0 γ σ H r _ fun d v H2 c e1 h => he2 ρ _ c H0 γ σ H2 (r.after e1) _ fun d2 v2 H3 c e2 h2 => by
    obtain ⟨m, n, rfl, rfl, h3, h4, h5, h6, h7, c⟩ := c
    cases h; cases h2
    obtain ⟨a1, b1⟩ := pow62 (n := m) (by omega) (by omega)
    obtain ⟨a2, b2⟩ := pow62 (n := n) (by omega) (by omega)
    exact ⟨m, n, rfl, ⟨a1, b1, a2, b2⟩, q _ [] _ H3 c (e1.trans e2) (fun p hp => by cases hp) itOk_rng (by rw [rngD_len]; exact small_line (by omega))⟩)
/-! ### for -/
def forC (g : UG) (tb : US) (E : Ed) : List D → En → Prop
  | [], ρ => E.nx ρ
  | d :: ds, ρ => g d ρ fun ρ' => tb { E with nx := forC g tb E ds, ct := forC g tb E ds, bk := E.nx } ρ'
def sFor (ti : UL) (g : UG) (tb : US) : US := fun E ρ => ti ρ fun ds => forC g tb E ds ρ
theorem Rep.less {K : PySem.W.Frag} {H0 H : Hp} {γ γ' : List (V × D)} {σ : St} {ρ : En} (r : Rep K τ H0 (γ' ++ γ) H σ ρ) : Rep K τ H0 γ H σ ρ := ⟨r.len, r.ext, r.inv, r.sl, r.sep, fun p hp => r.gh p (List.mem_append_right _ hp), r.zz⟩
theorem js_for {ti : UL} (S : Ok cp G N sc k X) (hi : JI τ X tg iter ti) (hg : JG τ X tg g) (hb : JSs τ X body t) (hs : ∀ x, foldedSetIterable iter X.env x = pure x := by intro _; rfl) : JS τ X (.For tg iter body [] pos) (sFor ti g t) := fun ρ E c H0 γ σ H r Dn d => by
  refine wpS_of (ps_for S.po S.calm pi_w pg_w pss_w hs) (hi ρ _ c H0 γ σ H r _ fun J γ' ds H2 c e1 hγ hJ _ => ?_)
  have r2 := r.after e1
  have R2 : Rep X.K τ H0 (γ' ++ γ) H2 σ ρ := ⟨r2.len, r2.ext, r2.inv, r2.sl, r2.sep, fun p hp => (List.mem_append.mp hp).elim (hγ p) (r2.gh p), r2.zz⟩
  refine ⟨fun i m σ' H' => m = ds.length - i ∧ ∃ ρ', Rep X.K τ H0 (γ' ++ γ) H' σ' ρ' ∧ forC g t E (ds.drop i) ρ', ⟨_, rfl, ρ, R2, c⟩, fun i m σ' H' ⟨hm, ρ', r', c⟩ => ?_⟩
  have bo : ∀ p ∈ γ', Bo X.K τ H' (res H' (own τ σ' ρ')) p.1 p.2 := fun p hp => bo_of res_own_ad (r'.gh p (List.mem_append_left _ hp))
  by_cases hlt : i < ds.length
  · rw [List.drop_eq_getElem_cons hlt] at c
    refine .inr ⟨hJ.go H' _ bo i hlt, fun σ2 H3 => ∃ ρ2, Rep X.K τ H0 (γ' ++ γ) H3 σ2 ρ2 ∧ forC g t E (ds.drop (i + 1)) ρ2, fun σ2 H3 h => ⟨ds.length - (i + 1), by omega, rfl, h⟩, fun x H4 hy => ?_⟩
    obtain ⟨sm, hdp⟩ := hJ.yld H' _ bo (fun a ha => r'.notOwn ha) i _ (List.getElem?_eq_getElem hlt) x H4 hy
    refine hg _ ρ' _ c H0 (γ' ++ γ) σ' H4 x (r'.after (.of_same sm)) hdp _ fun ρ2 σ2 c r3 _ => ?_
    exact hb ρ2 _ c H0 (γ' ++ γ) σ2 H4 r3 _ ⟨fun ρ3 σ3 H5 c r4 => ⟨ρ3, r4, c⟩, fun ρ3 σ3 H5 c r4 => d.nx ρ3 σ3 H5 c r4.less, fun ρ3 σ3 H5 c r4 => ⟨ρ3, r4, c⟩, d.rt⟩
  · rw [List.drop_of_length_le (by omega)] at c
    exact .inl ⟨hJ.stop H' _ bo i (by omega), d.nx ρ' σ' H' c r'.less⟩
/-- a list of one's own laid still -/
def sFrz (i : Nat) (t : US) : US := fun E ρ => match ρ[i]? with
  | some (.lst ds) => t E (ρ.set i (.dat (.list ds)))
  | _ => t E ρ
theorem js_frz (i : Nat) (h : JS τ X st t) : JS τ X st (sFrz i t) := fun ρ E c H0 γ σ H r Dn d => by
  unfold sFrz at c
  split at c
  · rename_i ds hi
    refine h _ E c H0 γ σ H ?_ Dn d
    obtain ⟨p, vs, e0, h0, hn, hp, ha⟩ := r.sl i _ hi
    have hil : i < σ.length := by rw [r.len]; exact (List.getElem?_eq_some_iff.mp hi).1
    have es : σ.set i (some (.ref p)) = σ := by
      apply List.ext_getElem?
      intro j
      by_cases ej : i = j
      · subst ej; rw [List.getElem?_set_self hil]; exact e0.symm
      · rw [List.getElem?_set_ne ej]
    have sub : ∀ b, own τ σ (ρ.set i (.dat (.list ds))) b → own τ σ ρ b ∧ b ≠ p := by
      rintro b (z | ⟨j, u, g1, g2, g3⟩)
      · exact ⟨.inl z, fun q => hn (by rw [← q]; exact z)⟩
      · have ne : i ≠ j := fun q => by subst q; rw [(set_here g1).1] at g2; cases g2
        exact ⟨.inr ⟨j, u, set_other ne g1, g2, g3⟩, fun q => ne (r.sep i j _ u p hi (set_other ne g1) rfl g2 e0 (by rw [← q]; exact g3))⟩
    have le : Same (res H (own τ σ ρ)) (res H (own τ σ (ρ.set i (.dat (.list ds))))) := res_mono fun a o n q => ⟨fun z => n (sub a z).1, q⟩
    refine ⟨by simp [r.len], r.ext, r.inv, fun j u hu => ?_, fun j l u w b g1 g2 g3 g4 g5 g6 => ?_, fun q hq => dp_same le _ _ (r.gh q hq), r.zz⟩
    · by_cases ej : i = j
      · subst ej
        obtain ⟨rfl, _⟩ := set_here hu
        exact ⟨_, e0, .lst (.inl (.inl (res_put (fun z => (sub p z).2 rfl) hp))) (dpAll_same le _ _ ha)⟩
      · exact SlOk.mono le (fun _ _ _ _ _ q => q) (r.sl j u (set_other ej hu))
    · have n1 : i ≠ j := fun e => by subst e; rw [(set_here g1).1] at g3; cases g3
      have n2 : i ≠ l := fun e => by subst e; rw [(set_here g2).1] at g4; cases g4
      exact r.sep j l u w b (set_other n1 g1) (set_other n2 g2) g3 g4 g5 g6
  · exact h ρ E c H0 γ σ H r Dn d
end
end Pu
namespace Pu
open PySem PySem.Spec PyProof.Rows L2
/-! ### a list out of sight -/
def unT (H : Hp) (p : Addr) : Hp := fun b => if b = p then none else H b
theorem unT_same {H : Hp} {p : Addr} : unT H p p = none := if_pos rfl
theorem unT_ne {H : Hp} {p b : Addr} (h : b ≠ p) : unT H p b = H b := if_neg h
theorem unT_le {H : Hp} {p : Addr} : Same (unT H p) H := fun b o e => by
  by_cases h : b = p
  · subst h; rw [unT_same] at e; cases e
  · rw [unT_ne h] at e; exact e
theorem upd_unT {H : Hp} {p : Addr} {o : HO} (h : H p = some o) : upd (unT H p) p o = H := by
  funext b
  by_cases hb : b = p
  · subst hb; rw [upd_same, h]
  · rw [upd_ne hb, unT_ne hb]
theorem unT_upd {H : Hp} {p : Addr} {o : HO} (h : H p = none) : unT (upd H p o) p = H := by
  funext b
  by_cases hb : b = p
  · subst hb; rw [unT_same, h]
  · rw [unT_ne hb, upd_ne hb]
section
variable {X : Cx} {pins : List (Addr × Obj)} {σ : St} {H : Hp} {s : Shared} {p : Addr} {xs : List V}
theorem inv_untrack (I : Inv X pins σ H s) (h : H p = some (.lst xs)) : ∃ o, s.heap.get? p = some o ∧ Inv X ((p, o) :: pins) σ (unT H p) s := by
  obtain ⟨hz, its, n, rv, ho⟩ := I.hok p _ h
  refine ⟨_, ho, I.ok, I.os, I.bare, ⟨I.base.keep, I.base.slot, fun b o e n hx => ?_, I.base.there, fun b ys e => ?_, fun b o u e => ?_, fun b ps e => ?_⟩, I.loc, I.cell, ?_, fun x c e => ?_, fun q hq => ?_, fun b u e => ?_, I.len⟩
  · by_cases hb : b = p
    · subst hb; exact unT_same
    · rw [unT_ne hb]; exact I.base.free b o e n hx
  · have e' := I.base.tups b ys e
    have hb : b ≠ p := fun z => by rw [z, h] at e'; cases e'
    rw [unT_ne hb]; exact e'
  · have e' := I.base.frzs b o u e
    have hb : b ≠ p := fun z => by rw [z, h] at e'; cases e'
    rw [unT_ne hb]; exact e'
  · obtain ⟨m, e'⟩ := I.base.tbls b ps e
    have hb : b ≠ p := fun z => by rw [z, h] at e'; cases e'
    exact ⟨m, by rw [unT_ne hb]; exact e'⟩
  · by_cases hb : X.env.locals = p
    · rw [hb]; exact unT_same
    · rw [unT_ne hb]; exact I.free
  · by_cases hb : c = p
    · rw [hb]; exact unT_same
    · rw [unT_ne hb]; exact I.freeC x c e
  · have old : q ∈ X.pn ++ pins → s.heap.get? q.1 = some q.2 ∧ unT H p q.1 = none ∧ q.1 ≠ X.env.locals ∧ q.1 ∉ X.fs ∧ ∀ v, q.2.data ≠ .cell v := fun hq => by
      obtain ⟨a1, a2, a3, a4, a5⟩ := I.pin q hq
      refine ⟨a1, ?_, a3, a4, a5⟩
      by_cases hb : q.1 = p
      · rw [hb]; exact unT_same
      · rw [unT_ne hb]; exact a2
    rcases List.mem_append.mp hq with hq | hq
    · exact old (List.mem_append_left _ hq)
    · rcases List.mem_cons.mp hq with rfl | hq
      · refine ⟨ho, unT_same, fun z => ?_, fun z => ?_, fun v q => by cases q⟩
        · have f := I.free
          rw [← z] at f
          rw [f] at h; cases h
        · obtain ⟨_, o, ho', _⟩ := I.ok.funs.mem z
          have f := I.base.free p o ho' (I.ok.frf p z) fun y => I.ok.exfs p y z
          rw [f] at h; cases h
      · exact old (List.mem_append_right _ hq)
  · have e' := unT_le b u e
    refine (I.hok b u e').stay (fun _ _ _ q => q) (fun c q => ?_) fun c ys q => ?_
    · have hc : c ≠ p := fun z => by rw [z, h] at q; cases q
      rw [unT_ne hc]; exact q
    · have hc : c ≠ p := fun z => by rw [z, h] at q; cases q
      rw [unT_ne hc]; exact q
theorem inv_retrack {σ' : St} {H2 : Hp} {s2 : Shared} {o : Obj} (I : Inv X pins σ H s) (h : H p = some (.lst xs)) (ho : s.heap.get? p = some o) (I2 : Inv X ((p, o) :: pins) σ' H2 s2) : H2 p = none ∧ Inv X pins σ' (upd H2 p (.lst xs)) s2 := by
  obtain ⟨g1, g2, g3, g4, g5⟩ := I2.pin (p, o) (List.mem_append_right _ (List.mem_cons_self ..))
  simp only at g1 g2 g3 g4
  have ne0 : ∀ b u, X.H_0 b = some u → (∀ ys, u ≠ .lst ys) → (∀ b ys, X.H_0 b = some (.tup ys) → H b = some (.tup ys)) → True := fun _ _ _ _ _ => trivial
  obtain ⟨hz, its, n, rv, ho'⟩ := I.hok p _ h
  rw [ho] at ho'
  cases ho'
  refine ⟨g2, I2.ok, I2.os, I2.bare, ⟨I2.base.keep, I2.base.slot, fun b o e n hx => ?_, I2.base.there, fun b ys e => ?_, fun b o u e => ?_, fun b ps e => ?_⟩, I2.loc, I2.cell, ?_, fun x c e => ?_, fun q hq => ?_, fun b u e => ?_, I2.len⟩
  · have hb : b ≠ p := fun z => by
      rw [z] at e n hx
      rw [I.base.free p o e n hx] at h; cases h
    rw [upd_ne hb]; exact I2.base.free b o e n hx
  · have hb : b ≠ p := fun z => by
      rw [z] at e
      rw [I.base.tups p ys e] at h; cases h
    rw [upd_ne hb]; exact I2.base.tups b ys e
  · have hb : b ≠ p := fun z => by
      rw [z] at e
      rw [I.base.frzs p o u e] at h; cases h
    rw [upd_ne hb]; exact I2.base.frzs b o u e
  · have hb : b ≠ p := fun z => by
      rw [z] at e
      obtain ⟨m, e'⟩ := I.base.tbls p ps e
      rw [e'] at h; cases h
    rw [upd_ne hb]; exact I2.base.tbls b ps e
  · rw [upd_ne (fun z => g3 z.symm)]; exact I2.free
  · have hb : c ≠ p := fun z => by
      have f := I.freeC x c e
      rw [z, h] at f; cases f
    rw [upd_ne hb]; exact I2.freeC x c e
  · obtain ⟨a1, a2, a3, a4, a5⟩ := I2.pin q (by
      rcases List.mem_append.mp hq with hq | hq
      · exact List.mem_append_left _ hq
      · exact List.mem_append_right _ (List.mem_cons_of_mem _ hq))
    have hb : q.1 ≠ p := fun z => by
      have f := (I.pin q hq).2.1
      rw [z, h] at f; cases f
    exact ⟨a1, by rw [upd_ne hb]; exact a2, a3, a4, a5⟩
  · by_cases hb : b = p
    · subst hb
      rw [upd_same] at e
      cases e
      exact ⟨hz, its, n, rv, g1⟩
    · rw [upd_ne hb] at e
      refine (I2.hok b u e).stay (fun _ _ _ q => q) (fun c q => ?_) fun c ys q => ?_
      · have hc : c ≠ p := fun z => by rw [z, g2] at q; cases q
        rw [upd_ne hc]; exact q
      · have hc : c ≠ p := fun z => by rw [z, g2] at q; cases q
        rw [upd_ne hc]; exact q
end
section
variable {X : Cx} {σ : St} {H : Hp} {p : Addr} {xs : List V} {e tg : Expr}
theorem wpE_hide {Q Q' : VK} (h : H p = some (.lst xs)) (q : wpE X e σ (unT H p) Q') (k : ∀ v H2, H2 p = none → Q' v H2 → Q v (upd H2 p (.lst xs))) : wpE X e σ H Q := by
  unfold wpE at q ⊢
  intro pins s I
  obtain ⟨o, ho, I'⟩ := inv_untrack I h
  refine thn (q _ s I') fun u s2 ⟨v, H2, I2, rv, qq⟩ => ?_
  obtain ⟨hn, I3⟩ := inv_retrack I h ho I2
  exact ⟨v, _, I3, rv, k v H2 hn qq⟩
theorem wpG_hide {v : V} {Q Q' : St → Hp → Prop} (h : H p = some (.lst xs)) (q : wpG X tg v σ (unT H p) Q') (k : ∀ σ2 H2, H2 p = none → Q' σ2 H2 → Q σ2 (upd H2 p (.lst xs))) : wpG X tg v σ H Q := by
  unfold wpG at q ⊢
  intro pins s u I rv
  obtain ⟨o, ho, I'⟩ := inv_untrack I h
  refine thn (q _ s u I' rv) fun u s2 ⟨σ2, H2, I2, qq⟩ => ?_
  obtain ⟨hn, I3⟩ := inv_retrack I h ho I2
  exact ⟨σ2, _, I3, k σ2 H2 hn qq⟩
def wpTs (X : Cx) (ifs : List Expr) : TT := fun σ H Q => ∀ t : TT, PTs X ifs t → True → ∃ t : TT, PTs X ifs t ∧ t σ H Q
end
/-! ### tests of a comprehension -/
def JTs (τ : Tn) (X : Cx) (ifs : List Expr) (t : UT) : Prop := match ifs with
  | [] => ∀ (ρ : En) (C : Bool → Prop), t ρ C → C true
  | [c] => JT τ X c t
  | _ => False
def bYes : UT := fun _ C => C true
theorem jts_nil {τ : Tn} {X : Cx} : JTs τ X [] bYes := fun _ _ c => c
theorem jts_one {τ : Tn} {X : Cx} {c : Expr} {t : UT} (h : JT τ X c t) : JTs τ X [c] t := h
theorem wpT_hide {X : Cx} {σ : St} {H : Hp} {p : Addr} {xs : List V} {e : Expr} {Q Q' : Bool → Hp → Prop} (h : H p = some (.lst xs)) (q : wpT X e σ (unT H p) Q') (k : ∀ b H2, H2 p = none → Q' b H2 → Q b (upd H2 p (.lst xs))) : wpT X e σ H Q := by
  unfold wpT at q ⊢
  intro pins s I
  obtain ⟨o, ho, I'⟩ := inv_untrack I h
  refine thn (q _ s I') fun b s2 ⟨H2, I2, qq⟩ => ?_
  obtain ⟨hn, I3⟩ := inv_retrack I h ho I2
  exact ⟨_, I3, k b H2 hn qq⟩
/-! ### list comprehensions -/
def lcC (g : UG) (tt : UT) (te : UV) (C : List D → Prop) (ρ : En) : List D → List D → Prop
  | [], acc => C acc
  | d :: ds, acc => g d ρ fun ρ2 => tt ρ2 fun z => (z = true → te ρ2 fun y => lcC g tt te C ρ ds (acc ++ [y])) ∧ (z = false → lcC g tt te C ρ ds acc)
def wipeS (ρ : En) : List Nat → En
  | [] => ρ
  | v :: vs => (wipeS ρ vs).set v .un
def noOwn (ρ : En) (vs : List Nat) : Prop := ∀ i ∈ vs, ∀ s, ρ[i]? = some s → s.isOwn = false
def eLc (ti : UL) (g : UG) (tt : UT) (te : UV) (vs : List Nat) : UE := fun ρ C => noOwn ρ vs ∧ ti ρ fun ds => lcC g tt te (fun acc => C (.lst acc)) (wipeS ρ vs) ds []
theorem wipeS_len (ρ : En) : ∀ vs : List Nat, (wipeS ρ vs).length = ρ.length
  | [] => rfl
  | v :: vs => by unfold wipeS; rw [List.length_set, wipeS_len ρ vs]
theorem wipeS_get {ρ : En} {i : Nat} {s : Sl} : ∀ {vs : List Nat}, (wipeS ρ vs)[i]? = some s → s = .un ∨ (ρ[i]? = some s ∧ i ∉ vs)
  | [], h => .inr ⟨h, by simp⟩
  | v :: vs, h => by
    unfold wipeS at h
    by_cases hi : v = i
    · subst hi
      exact .inl (set_here h).1
    · rcases wipeS_get (set_other hi h) with q | ⟨q1, q2⟩
      · exact .inl q
      · exact .inr ⟨q1, by simp only [List.mem_cons, not_or]; exact ⟨fun z => hi z.symm, q2⟩⟩
theorem wipeS_out {ρ : En} {i : Nat} : ∀ {vs : List Nat}, i ∉ vs → (wipeS ρ vs)[i]? = ρ[i]?
  | [], _ => rfl
  | v :: vs, h => by
    simp only [List.mem_cons, not_or] at h
    unfold wipeS
    rw [List.getElem?_set_ne (fun z => h.1 z.symm), wipeS_out h.2]
section
variable {τ : Tn} {K : PySem.W.Frag} {H0 H : Hp} {γ : List (V × D)} {σ : St} {ρ : En} {vs : List Nat}
theorem own_wipe (hn : noOwn ρ vs) (a : Addr) : own τ (wipe σ vs) (wipeS ρ vs) a ↔ own τ σ ρ a := by
  constructor
  · rintro (z | ⟨i, s, h1, h2, h3⟩)
    · exact .inl z
    · rcases wipeS_get h1 with rfl | ⟨q1, q2⟩
      · cases h2
      · rw [wipe_out q2] at h3
        exact .inr ⟨i, s, q1, h2, h3⟩
  · rintro (z | ⟨i, s, h1, h2, h3⟩)
    · exact .inl z
    · have hi : i ∉ vs := fun z => by rw [hn i z s h1] at h2; cases h2
      exact .inr ⟨i, s, by rw [wipeS_out hi]; exact h1, h2, by rw [wipe_out hi]; exact h3⟩
theorem own_wipe_eq (hn : noOwn ρ vs) : own τ (wipe σ vs) (wipeS ρ vs) = own τ σ ρ := funext fun a => propext (own_wipe hn a)
theorem Rep.wiped (hn : noOwn ρ vs) (r : Rep K τ H0 γ H σ ρ) : Rep K τ H0 γ H (wipe σ vs) (wipeS ρ vs) := by
  refine ⟨by rw [wipe_length, wipeS_len, r.len], r.ext, r.inv, fun i s h => ?_, fun i j s t a h1 h2 h3 h4 h5 h6 => ?_, by rw [own_wipe_eq hn]; exact r.gh, r.zz⟩
  · rw [own_wipe_eq hn]
    rcases wipeS_get h with rfl | ⟨q1, q2⟩
    · trivial
    · rw [wipe_out q2]
      exact r.sl i s q1
  · rcases wipeS_get h1 with rfl | ⟨q1, q2⟩
    · cases h3
    · rcases wipeS_get h2 with rfl | ⟨q3, q4⟩
      · cases h4
      · rw [wipe_out q2] at h5
        rw [wipe_out q4] at h6
        exact r.sep i j s t a q1 q3 h3 h4 h5 h6
end
/-! targets of a comprehension: their names are the block's own -/
theorem wipe_in {σ : St} {j : Nat} : ∀ {vs : List Nat}, j ∈ vs → (wipe σ vs)[j]? = if j < σ.length then some none else none
  | v :: vs, h => by
    unfold wipe
    by_cases hv : v = j
    · subst hv
      by_cases hl : v < σ.length
      · rw [List.getElem?_set_self (by rw [wipe_length]; exact hl), if_pos hl]
      · rw [List.getElem?_eq_none (by rw [List.length_set, wipe_length]; omega), if_neg hl]
    · rw [List.getElem?_set_ne hv]
      exact wipe_in ((List.mem_cons.mp h).resolve_left fun z => hv z.symm)
theorem wipe_set {σ : St} {i : Nat} {v : Option V} {vs : List Nat} (h : i ∈ vs) : wipe (σ.set i v) vs = wipe σ vs := by
  apply List.ext_getElem?
  intro j
  by_cases hj : j ∈ vs
  · rw [wipe_in hj, wipe_in hj, List.length_set]
  · rw [wipe_out hj, wipe_out hj, List.getElem?_set_ne (fun z => hj (by rw [← z]; exact h))]
def JGc (vs : List Nat) (τ : Tn) (X : Cx) (tg : Expr) (g : UG) : Prop := ∀ (d : D) (ρ : En) (C : En → Prop), g d ρ C → noOwn ρ vs → ∀ (H0 : Hp) (γ : List (V × D)) (σ : St) (H : Hp) (v : V), Rep X.K τ H0 γ H σ ρ → Dp X.K (res H (own τ σ ρ)) v d → ∀ Q : St → Hp → Prop,
  (∀ ρ' σ', C ρ' → Rep X.K τ H0 γ H σ' ρ' → noOwn ρ' vs → own τ σ' ρ' = own τ σ ρ → wipe σ' vs = wipe σ vs → Q σ' H) → wpG X tg v σ H Q
def JGcs (vs : List Nat) (τ : Tn) (X : Cx) (ts : List Expr) (g : UGs) : Prop := ∀ (ds : List D) (ρ : En) (C : En → Prop), g ds ρ C → noOwn ρ vs → ∀ (H0 : Hp) (γ : List (V × D)) (σ : St) (H : Hp) (ws : List V), Rep X.K τ H0 γ H σ ρ → DpAll X.K (res H (own τ σ ρ)) ws ds → ∀ Q : St → Hp → Prop,
  (∀ ρ' σ', C ρ' → Rep X.K τ H0 γ H σ' ρ' → noOwn ρ' vs → own τ σ' ρ' = own τ σ ρ → wipe σ' vs = wipe σ vs → Q σ' H) → wpGs X ts ws σ H Q
section
variable {τ : Tn} {G : Gx} {cp : List Str} {N : List Str} {sc : Scope} {k : Nat} {X : Cx} {tg : Expr} {es ts : List Expr} {g : UG} {gs : UGs} {pos p2 : Pos} {x : Str} {vs : List Nat}
theorem jgc_name (S : Ok cp G N sc k X) (i : Nat) (hv : i ∈ vs := by decide) (hN : N[i]? = some x := by rfl) (hx : LocC cp sc x := by first | exact Or.inl rfl | exact Or.inr ⟨rfl, rfl⟩) : JGc vs τ X (.Name x p2) (gNam i) := fun d ρ C c hno H0 γ σ H v r h Q q => by
  refine wpG_of (pg_name (i := i) (by rw [S.eN]; exact S.nd) (by rw [S.eN]; exact hN) (loc_of S hx) (fn_of_loc S hx)) ?_
  refine q _ _ c (r.setDat h) (fun j hj s hs => ?_) ?_ (wipe_set hv)
  · by_cases e : i = j
    · subst e; rw [(set_here hs).1]; rfl
    · exact hno j hj s (set_other e hs)
  · funext a
    refine propext ⟨fun z => (own_set z).elim id fun q => (by cases q.1), ?_⟩
    rintro (z | ⟨j, s, h1, h2, h3⟩)
    · exact .inl z
    · have e : i ≠ j := fun e => by subst e; rw [hno i hv s h1] at h2; cases h2
      exact .inr ⟨j, s, by rw [List.getElem?_set_ne e]; exact h1, h2, by rw [List.getElem?_set_ne e]; exact h3⟩
theorem jgcs_nil : JGcs vs τ X [] gsNil := fun ds ρ C c hno H0 γ σ H ws r h Q q => by
  cases ds with
  | nil =>
    cases h
    exact wpGs_of pgs_nil ⟨rfl, q ρ σ c r hno rfl rfl⟩
  | cons d ds => exact c.elim
theorem jgcs_cons (h1 : JGc vs τ X tg g) (h2 : JGcs vs τ X ts gs) (hs : (assignEach (tg :: ts) X.env).map (·.2) = assign tg X.env :: (assignEach ts X.env).map (·.2) := by rfl) : JGcs vs τ X (tg :: ts) (gsCons g gs) := fun ds ρ C c hno H0 γ σ H ws r h Q q => by
  cases ds with
  | nil => exact c.elim
  | cons d ds =>
    cases h with
    | cons hd ht =>
      exact wpGs_of (pgs_cons pg_w pgs_w hs) ⟨_, _, rfl, h1 d ρ _ c hno H0 γ σ H _ r hd _ fun ρ' σ' c r' no' eo ew => h2 ds ρ' C c no' H0 γ σ' H _ r' (by rw [eo]; exact ht) Q fun ρ2 σ2 c r2 no2 eo2 ew2 => q ρ2 σ2 c r2 no2 (eo2.trans eo) (ew2.trans ew)⟩
theorem jgc_tup {kk n : Nat} (S : Ok cp G N sc k X) (h : JGcs vs τ X es gs) (hn : (assignEach es X.env).length = n := by rfl) (hst : (assignEach es X.env).findIdx? (·.1) = none := by rfl) : JGc vs τ X (.Tuple es kk pos) (gTupl n gs) := fun d ρ C c hno H0 γ σ H v r hd Q q => by
  unfold gTupl at c
  split at c
  · rename_i ds
    cases hd with
    | tup hs ha =>
      exact wpG_of (pg_tup S.calm pgs_w hn hst) ⟨_, _, rfl, sqT_same res_le hs, (dpAll_len ha).trans c.1, h ds ρ C c.2 hno H0 γ σ H _ r ha Q q⟩
  · exact c.elim
end
/-! ### the comprehension -/
def IsBlk (X : Cx) (scope : Scope) (X' : Cx) : Prop := ∃ (s : Shared) (H : Hp) (C : Addr) (cl : List (Str × Addr)) (fp : List Addr), X' = X.blk s H scope (compEnvC scope cl C X.env) fp
/-- the names that a block captures -/
def capt (scope : Scope) : List Str := (scope.names.filter fun p => p.2 == .free).map (·.1)
theorem lookup_mem {α : Type} {x : Str} {v : α} : ∀ {l : List (Str × α)}, l.lookup x = some v → (x, v) ∈ l
  | (y, w) :: l, h => by
    rw [List.lookup_cons] at h
    split at h
    · rename_i e
      have : x = y := by simpa using e
      cases h
      rw [this]
      exact List.mem_cons_self ..
    · exact List.mem_cons_of_mem _ (lookup_mem h)
theorem relS_cell {scope sc : Scope} {x : Str} (h : (relS scope sc).names.lookup x = some .cell) (hc : (capt scope).contains x = false) : scope.names.lookup x = some .cell := by
  have go : ∀ l : List (Str × NameKind), (l.map fun (n, k) => if (k == .free && sc.kind == .function && sc.names.lookup n == some .cell) then (n, NameKind.cell) else (n, k)).lookup x = some .cell → ((l.filter fun p => p.2 == .free).map (·.1)).contains x = false → l.lookup x = some .cell := by
    intro l
    induction l with
    | nil => intro h; simp at h
    | cons p l ih =>
      obtain ⟨n, kk⟩ := p
      intro h hc
      have e1 : ((fun (p : Str × NameKind) => match p with | (n, k) => if (k == .free && sc.kind == .function && sc.names.lookup n == some .cell) then (n, NameKind.cell) else (n, k)) (n, kk)) = (n, if (kk == .free && sc.kind == .function && sc.names.lookup n == some .cell) then NameKind.cell else kk) := by
        show (if (kk == .free && sc.kind == .function && sc.names.lookup n == some .cell) = true then (n, NameKind.cell) else (n, kk)) = _
        split <;> rfl
      rw [List.map_cons] at h
      dsimp only at h e1
      rw [e1, List.lookup_cons] at h
      by_cases hn : x = n
      · subst hn
        rw [List.lookup_cons]
        simp only [beq_self_eq_true]
        by_cases hk : kk = .free
        · subst hk
          rw [List.filter_cons] at hc
          simp at hc
        · have hk' : (kk == NameKind.free) = false := by cases kk <;> first | rfl | exact absurd rfl hk
          simp only [hk', Bool.false_and, Bool.false_eq_true, if_false, beq_self_eq_true] at h
          exact h
      · have hn' : (x == n) = false := by simpa using hn
        have h' : (l.map fun (n, k) => if (k == .free && sc.kind == .function && sc.names.lookup n == some .cell) then (n, NameKind.cell) else (n, k)).lookup x = some .cell := by
          rw [hn'] at h; exact h
        rw [List.lookup_cons, hn']
        refine ih h' ?_
        rw [List.filter_cons] at hc
        split at hc
        · rw [List.map_cons, List.contains_cons, hn', Bool.false_or] at hc
          exact hc
        · exact hc
  exact go scope.names h hc
theorem isBlk_ok {G : Gx} {cp : List Str} {N : List Str} {sc scope : Scope} {k : Nat} {X X' : Cx} (S : Ok cp G N sc k X) (hk : scope.kind = .function) (h : IsBlk X scope X') : Ok (capt scope) G N (relS scope sc) k X' := by
  obtain ⟨s, H, C, cl, fp, rfl⟩ := h
  have hs : (compEnvC scope cl C X.env).scope = relS scope sc := by
    rw [← S.es] <;> rfl
  exact ⟨S.eP, S.ew, S.eK, S.em, S.eb, S.eN, S.nd, hs, hk, S.calm, S.room, fun x h1 h2 => by show (scope.names.lookup x == some .cell) = true; rw [relS_cell h1 h2]; rfl, PassesOwn.never⟩
section
variable {τ : Tn} {G : Gx} {cp : List Str} {N : List Str} {sc scope : Scope} {k : Nat} {X : Cx} {tg iter elt : Expr} {ifs : List Expr} {g : UG} {tt : UT} {te : UV} {ti : UL} {pos : Pos}
def wgB (X : Cx) (scope : Scope) (tg : Expr) : TG := fun v σ H Q => ∀ X', IsBlk X scope X' → wpG X' tg v σ H Q
def weB (X : Cx) (scope : Scope) (e : Expr) : TE := fun σ H Q => ∀ X', IsBlk X scope X' → wpE X' e σ H Q
def wtB (X : Cx) (scope : Scope) : List Expr → TT
  | [] => tYes
  | [c] => fun σ H Q => ∀ X', IsBlk X scope X' → wpT X' c σ H Q
  | _ => fun _ _ _ => False
theorem isBlk_K {X X' : Cx} (h : IsBlk X scope X') : X'.K = X.K := by
  obtain ⟨s, H, C, cl, fp, rfl⟩ := h
  rfl
theorem pts_B (s : Shared) (H : Hp) (C : Addr) (cl : List (Str × Addr)) (fp : List Addr) : PTs (X.blk s H scope (compEnvC scope cl C X.env) fp) ifs (wtB X scope ifs) := by
    cases ifs with
    | nil => exact pts_nil
    | cons c r =>
      cases r with
      | nil => exact pts_one ⟨fun pins s' σ H' Q I h => pt_w.run pins s' σ H' Q I (h _ ⟨s, H, C, cl, fp, rfl⟩)⟩
      | cons _ _ => exact ⟨fun _ _ _ _ _ _ h => h.elim⟩
theorem lc_read (own_ : List (Str × Nat)) (S : Ok cp G N sc k X) (hi : JIx τ X tg iter ti) (hg : ∀ X', Ok (capt scope) G N (relS scope sc) k X' → JGc (own_.map (·.2)) τ X' tg g) (ht : ∀ X', Ok (capt scope) G N (relS scope sc) k X' → JTs τ X' ifs tt) (he : ∀ X', Ok (capt scope) G N (relS scope sc) k X' → JD τ X' elt te)
    (ok : BlkOk N sc scope own_) (ρ : En) (C : Rs → Prop) (c : eLc ti g tt te (own_.map (·.2)) ρ C) (H0 : Hp) (γ : List (V × D)) (σ : St) (H : Hp) (r : Rep X.K τ H0 γ H σ ρ) (Q : VK)
    (q : ∀ r v H2, C r → Ext τ H H2 → RsOk X.K τ H H2 σ ρ v r → Q v H2) : tLc (wpI X tg iter) (wgB X scope tg) (wtB X scope ifs) (weB X scope elt) (own_.map (·.2)) σ H Q := by
  obtain ⟨hno, c⟩ := c
  have hkd := ok.kind
  refine hi ρ _ c H0 γ σ H r _ fun J γ' ds H1 c e1 hγ hJ hlen D hD => ?_
  have R1 := r.after e1
  have nownD : ¬ own τ σ ρ D := R1.notOwn hD
  refine ⟨fun i m H' => m = ds.length - i ∧ ∃ acc ws, H' D = some (.lst ws) ∧ Ext τ H1 (unT H' D) ∧ DpAll X.K (res (unT H' D) (own τ σ ρ)) ws acc ∧ acc.length ≤ i ∧ lcC g tt te (fun acc => C (.lst acc)) (wipeS ρ (own_.map (·.2))) (ds.drop i) acc, ⟨_, rfl, [], [], upd_same, ?_, .nil, Nat.le_refl _, c⟩, fun i m H' ⟨hm, acc, ws, h1, h2, h3, h4, c⟩ => ?_⟩
  · rw [unT_upd hD]; exact .refl
  have R2 := R1.after h2
  have bo : ∀ p ∈ γ', Bo X.K τ H' (res H' (fun b => own τ σ ρ b ∨ b = D)) p.1 p.2 := fun p hp => by
    have b := (hγ p hp).after h2
    have l1 : Same (res (unT H' D) τ.ad) (res H' τ.ad) := res_mono fun b o n e => ⟨n, unT_le b o e⟩
    have l2 : Same (res (unT H' D) (own τ σ ρ)) (res H' (fun b => own τ σ ρ b ∨ b = D)) := res_mono fun b o n e => by
      have hb : b ≠ D := fun z => by rw [z, unT_same] at e; cases e
      exact ⟨fun z => z.elim n hb, unT_le b o e⟩
    obtain ⟨v, d⟩ := p
    cases d with
    | list ds => obtain ⟨a, vs, e, hs, ha⟩ := b; exact ⟨a, vs, e, sqL_same l1 hs, dpAll_same l2 _ _ ha⟩
    | tuple ds => obtain ⟨a, vs, e, hs, ha⟩ := b; exact ⟨a, vs, e, sqT_same l1 hs, dpAll_same l2 _ _ ha⟩
    | none => exact b
    | bool _ => exact b
    | int _ => exact b
    | str _ => exact b
    | dict _ => exact b
  by_cases hlt : i < ds.length
  · rw [List.drop_eq_getElem_cons hlt, lcC] at c
    refine .inr ⟨hJ.go H' _ bo i hlt, fun H'' => ∃ acc ws, H'' D = some (.lst ws) ∧ Ext τ H1 (unT H'' D) ∧ DpAll X.K (res (unT H'' D) (own τ σ ρ)) ws acc ∧ acc.length ≤ i + 1 ∧ lcC g tt te (fun acc => C (.lst acc)) (wipeS ρ (own_.map (·.2))) (ds.drop (i + 1)) acc,
      fun H'' h => ⟨ds.length - (i + 1), by omega, rfl, h⟩, fun x H4 hy X' hX' => ?_⟩
    obtain ⟨sm, hdp⟩ := hJ.yld H' _ bo (fun a ha z => z.elim (fun z => by
      obtain ⟨o, e, _⟩ := R2.ownMut z
      rw [unT_le a o e] at ha; cases ha) fun z => by rw [z, h1] at ha; cases ha) i _ (List.getElem?_eq_getElem hlt) x H4 hy
    have h4D : H4 D = some (.lst ws) := sm D _ h1
    have smU : Same (unT H' D) (unT H4 D) := fun b o e => by
      have hb : b ≠ D := fun z => by rw [z, unT_same] at e; cases e
      rw [unT_ne hb] at e ⊢
      exact sm b o e
    have R4 := R2.after (.of_same smU)
    have dp4 : Dp X.K (res (unT H4 D) (own τ σ ρ)) x ds[i] := dp_same (res_mono fun b o n e => ⟨fun z => n (.inl z), by rw [unT_ne fun z => n (.inr z)]; exact e⟩) _ _ hdp
    have dpw4 := dpAll_after (.of_same smU) h3
    have eK := isBlk_K hX'
    have SX' := isBlk_ok S hkd hX'
    refine wpG_hide h4D (hg X' SX' _ (wipeS ρ (own_.map (·.2))) _ c (fun j hj s hs => ?_) H0 γ (wipe σ (own_.map (·.2))) (unT H4 D) x (by rw [eK]; exact R4.wiped hno) (by rw [eK, own_wipe_eq hno]; exact dp4) (fun σ2 H2 => H2 = unT H4 D ∧ ∃ ρ2, Rep X.K τ H0 γ (unT H4 D) σ2 ρ2 ∧ own τ σ2 ρ2 = own τ σ ρ ∧ wipe σ2 (own_.map (·.2)) = wipe σ (own_.map (·.2)) ∧ tt ρ2 fun z => (z = true → te ρ2 fun y => lcC g tt te (fun acc => C (.lst acc)) (wipeS ρ (own_.map (·.2))) (ds.drop (i + 1)) (acc ++ [y])) ∧ (z = false → lcC g tt te (fun acc => C (.lst acc)) (wipeS ρ (own_.map (·.2))) (ds.drop (i + 1)) acc)) fun ρ2 σ2 c r2 no2 eo ew => ⟨rfl, ρ2, by rw [← eK]; exact r2, by rw [eo, own_wipe_eq hno], ?_, c⟩) fun σ2 H2 hn ⟨eH, ρ2, r2, eo, ew, c⟩ => ?_
    · rcases wipeS_get hs with rfl | ⟨q1, q2⟩
      · rfl
      · exact hno j hj s q1
    · rw [ew]
      apply List.ext_getElem?
      intro j
      by_cases hj : j ∈ own_.map (·.2)
      · rw [wipe_in hj, wipe_in hj, wipe_length]
      · simp only [wipe_out hj]
    · subst eH
      rw [upd_unT h4D]
      have ew' : wipe σ2 (own_.map (·.2)) = wipe σ (own_.map (·.2)) := ew
      refine ⟨ew', ?_⟩
      -- the tests
      have tests : ∀ (Q : Bool → Hp → Prop), (∀ z H5, H5 D = none → Ext τ (unT H4 D) H5 → ((z = true → te ρ2 fun y => lcC g tt te (fun acc => C (.lst acc)) (wipeS ρ (own_.map (·.2))) (ds.drop (i + 1)) (acc ++ [y])) ∧ (z = false → lcC g tt te (fun acc => C (.lst acc)) (wipeS ρ (own_.map (·.2))) (ds.drop (i + 1)) acc)) → Q z (upd H5 D (.lst ws))) → wtB X scope ifs σ2 H4 Q := by
        intro Q k
        cases ifs with
        | nil =>
          have c1 := ht X' SX' ρ2 _ c
          have := k true (unT H4 D) unT_same .refl c1
          rw [upd_unT h4D] at this
          exact this
        | cons cc rr =>
          cases rr with
          | nil =>
            intro X2 hX2
            have eK2 := isBlk_K hX2
            have S2 := isBlk_ok S hkd hX2
            have jt : JT τ X2 cc tt := ht X2 S2
            exact wpT_hide h4D (jt ρ2 _ c H0 γ σ2 (unT H4 D) (by rw [eK2]; exact r2) (fun z H5 => Ext τ (unT H4 D) H5 ∧ _) fun z H5 c e => ⟨e, c⟩) fun z H5 hn ⟨e, c⟩ => k z H5 hn e c
          | cons _ _ => exact (ht X' SX').elim
      refine tests _ fun z H5 hn5 e5 c => ?_
      have h5D : (upd H5 D (.lst ws)) D = some (.lst ws) := upd_same
      cases z with
      | false =>
        refine iteF ⟨acc, ws, h5D, ?_, ?_, by omega, c.2 rfl⟩
        · rw [unT_upd hn5]; exact (h2.trans (.of_same smU)).trans e5
        · rw [unT_upd hn5]; exact dpAll_after e5 dpw4
      | true =>
        refine iteT ?_
        intro X3 hX3
        have eK3 := isBlk_K hX3
        have S3 := isBlk_ok S hkd hX3
        refine wpE_hide h5D ?_ fun v H6 hn6 (h6 : ∃ d, Ext τ H5 H6 ∧ Dp X.K (res H6 (own τ σ ρ)) v d ∧ lcC g tt te (fun acc => C (.lst acc)) (wipeS ρ (own_.map (·.2))) (ds.drop (i + 1)) (acc ++ [d])) => ?_
        · rw [unT_upd hn5]
          refine he X3 S3 ρ2 _ (c.1 rfl) H0 γ σ2 H5 (by rw [eK3]; exact r2.after e5) _ fun d v H6 c e6 h6 => ⟨d, e6, ?_, c⟩
          rw [eK3, eo] at h6
          exact h6
        · obtain ⟨d, e6, d6, c6⟩ := h6
          refine ⟨ws, upd_same, ?_, acc ++ [d], ws ++ [v], upd_same, ?_, ?_, ?_, c6⟩
          · rw [dpAll_len h3]; omega
          · rw [upd_upd, unT_upd hn6]; exact ((h2.trans (.of_same smU)).trans e5).trans e6
          · rw [upd_upd, unT_upd hn6]; exact dpAll_append (dpAll_after e6 (dpAll_after e5 dpw4)) (.cons d6 .nil)
          · rw [List.length_append, List.length_singleton]; omega
  · rw [List.drop_of_length_le (by omega)] at c
    refine .inl ⟨hJ.stop H' _ bo i (by omega), q (.lst acc) _ H' c ?_ ⟨D, ws, rfl, e1.fresh r.inv hD, h1, ?_⟩⟩
    · exact (e1.trans h2).trans (.of_same unT_le)
    · exact dpAll_same (res_mono fun b o n e => by
        have hb : b ≠ D := fun z => by rw [z, unT_same] at e; cases e
        exact ⟨fun z => z.elim n hb, unT_le b o e⟩) _ _ h3
theorem je_lc (own_ : List (Str × Nat)) (S : Ok cp G N sc k X) (hi : JIx τ X tg iter ti) (hg : ∀ X', Ok (capt scope) G N (relS scope sc) k X' → JGc (own_.map (·.2)) τ X' tg g) (ht : ∀ X', Ok (capt scope) G N (relS scope sc) k X' → JTs τ X' ifs tt) (he : ∀ X', Ok (capt scope) G N (relS scope sc) k X' → JD τ X' elt te)
    (hok : blkC N sc scope own_ = true := by decide +kernel) (hs : ∀ x, foldedSetIterable iter X.env x = pure x := by intro _; rfl) : JE τ X (.ListComp elt [⟨tg, iter, ifs, 0⟩] scope pos) (eLc ti g tt te (own_.map (·.2))) := fun ρ C c H0 γ σ H r Q q =>
  wpE_of (pe_lc (own := own_) S.calm (by rw [S.eN]; exact S.nd) pi_w (by rw [S.eN, S.es]; exact blkOk_by hok) (g := wgB X scope tg) (tt := wtB X scope ifs) (te := weB X scope elt) (fun s H C cl fp => ⟨fun pins s' σ H' v u Q I rv h => pg_w.run pins s' σ H' v u Q I rv (h _ ⟨s, H, C, cl, fp, rfl⟩)⟩) pts_B (fun s H C cl fp => ⟨fun pins s' σ H' Q I h => pe_w.run pins s' σ H' Q I (h _ ⟨s, H, C, cl, fp, rfl⟩)⟩) hs)
    (lc_read own_ S hi hg ht he (blkOk_by hok) ρ C c H0 γ σ H r Q q)
/-- y = [..], on one line, y a local -/
theorem js_setLc {y : Str} {py spos : Pos} (own_ : List (Str × Nat)) (S : Ok cp G N sc k X) (i : Nat) (hi : JIx τ X tg iter ti) (hg : ∀ X', Ok (capt scope) G N (relS scope sc) k X' → JGc (own_.map (·.2)) τ X' tg g) (ht : ∀ X', Ok (capt scope) G N (relS scope sc) k X' → JTs τ X' ifs tt) (he : ∀ X', Ok (capt scope) G N (relS scope sc) k X' → JD τ X' elt te)
    (hok : blkC N sc scope own_ = true := by decide +kernel) (hN : N[i]? = some y := by rfl) (hy : sc.names.lookup y = some .local := by rfl) (hl : (py.line == pos.line) = true := by rfl)
    (ha : (scope.names.any fun (n, k) => n == y && (k == .local || k == .cell)) = false := by decide +kernel) (hs : ∀ x, foldedSetIterable iter X.env x = pure x := by intro _; rfl) :
    JS τ X (.Assign [.Name y py] (.ListComp elt [⟨tg, iter, ifs, 0⟩] scope pos) spos) (sSet i (eLc ti g tt te (own_.map (·.2)))) := fun ρ E c H0 γ σ H r Dn d =>
  wpS_of (ps_setLc (i := i) (own := own_) S.calm (by rw [S.eN]; exact S.nd) (by rw [S.eN]; exact hN) (by rw [S.es]; exact hy) (sw_true (by rw [S.es]; exact S.kd) (by rw [S.es]; exact hy) hl ha) pi_w (by rw [S.eN, S.es]; exact blkOk_by hok) (g := wgB X scope tg) (tt := wtB X scope ifs) (te := weB X scope elt) (fun s H C cl fp => ⟨fun pins s' σ H' v u Q I rv h => pg_w.run pins s' σ H' v u Q I rv (h _ ⟨s, H, C, cl, fp, rfl⟩)⟩) pts_B (fun s H C cl fp => ⟨fun pins s' σ H' Q I h => pe_w.run pins s' σ H' Q I (h _ ⟨s, H, C, cl, fp, rfl⟩)⟩) hs)
    (lc_read own_ S hi hg ht he (blkOk_by hok) ρ _ c H0 γ σ H r _ fun rs v H2 c e h => d.nx _ _ H2 c (r.set e h))
end
end Pu
/-! ### enumerate of a tuple, at the library's level -/
namespace PuEn
open PySem
open Sem (wp)
open AutoSeq1 (wpAny_loadPart')
theorem meets_enumerate_newT (l : Addr) (items : Array Value) :
    Meets (Builtin.«enumerate.__new__» ⟨[.type "enumerate", .ref l], []⟩) (fun _ R s => s.heap.IsTuple l items ∧
      R (.ok (.ret (.ref (s.heap.push { cls := .type "tuple_iterator", data := .fields #[.ref l, .int 0 0] }).objs.size)))
        { s with heap := (s.heap.push { cls := .type "tuple_iterator", data := .fields #[.ref l, .int 0 0] }).push { cls := .type "enumerate", data := .fields #[.none, .bool false, .ref s.heap.objs.size, rawInt 0, .none, .none] } }) :=
  .of_wp fun prog w A R s h => by
    obtain ⟨hp, g, d, tk, os⟩ := s; obtain ⟨hl, h⟩ := h
    have hsub := sub_enumerate
    have q1 : ∀ {A' : Around} {E : Value → Shared → Prop} {Q : Value → Shared → Prop}, Q (.ref hp.objs.size) ⟨hp.push { cls := .type "tuple_iterator", data := .fields #[.ref l, .int 0 0] }, g, d, tk, os⟩ → wpAny (model prog w) A' (pyIter (.ref l)) Q E ⟨hp, g, d, tk, os⟩ :=
      fun q => (begins_tuple l items).iter prog w _ _ ⟨hp, g, d, tk, os⟩ _ hl q
    wp_walk using q1
    refine wpAny_stack_any fun st => wpAny_pure ?_
    split
    · rename_i c _ _ _ _ _
      cases (c == Value.type "enumerate")
      · wp_walk using q1
        exact ⟨_, rfl, h⟩
      · wp_walk using q1
        exact ⟨_, rfl, h⟩
    · wp_walk using q1
      exact ⟨_, rfl, h⟩
section
variable {prog : Program} {w : World} {A : Around} {E : Value → Shared → Prop} {s : Shared}
theorem call_enumerate_tuple {l : Addr} {items : Array Value} {Q : Value → Shared → Prop} (hL : s.heap.IsTuple l items)
    (h : ∀ h', IsEnum h' (s.heap.objs.size + 1) s.heap.objs.size 0 .none → h'.IsTupleIter s.heap.objs.size l 0 → h'.objs.size = s.heap.objs.size + 2 →
      (∀ b o, s.heap.get? b = some o → h'.get? b = some o) → Q (.ref (s.heap.objs.size + 1)) { s with heap := h' }) :
    wpAny (model prog w) A (call (.type "enumerate") [.ref l]) Q E s := by
  refine callType_new F.called_enumerate (by decide) (F.typeCall_enumerate_1 _) (F.newCall_enumerate_1 _) (fun obj => F.args_object_init_2 obj _) F.entry_enumerate_new
    (meets_enumerate_newT l items) ⟨hL, ?_⟩
  have hz : (s.heap.push { cls := .type "tuple_iterator", data := .fields #[.ref l, .int 0 0] }).objs.size = s.heap.objs.size + 1 := Heap.size_push ..
  show _ ∧ _
  rw [hz]
  have he : IsEnum ((s.heap.push { cls := .type "tuple_iterator", data := .fields #[.ref l, .int 0 0] }).push
      { cls := .type "enumerate", data := .fields #[.none, .bool false, .ref s.heap.objs.size, rawInt 0, .none, .none] }) (s.heap.objs.size + 1) s.heap.objs.size 0 .none := by
    have := Heap.get?_push_size (s.heap.push { cls := .type "tuple_iterator", data := .fields #[.ref l, .int 0 0] })
      (o := { cls := .type "enumerate", data := .fields #[.none, .bool false, .ref s.heap.objs.size, rawInt 0, .none, .none] }) rfl
    rw [hz] at this; exact this
  refine ⟨⟨_, he, rfl⟩, h _ he ⟨_, Heap.get?_push_of_some _ (Heap.get?_push_size _ rfl), rfl, rfl⟩ (by rw [Heap.size_push, hz]) fun b o x => Heap.get?_push_of_some _ (Heap.get?_push_of_some _ x)⟩
end
end PuEn
namespace Pu
open PySem PySem.Spec PyProof.Rows L2
theorem enum_endT {prog : Program} {w : World} {A : Around} {E : Value → Shared → Prop} {s : Shared} {e it l : Addr} {i : Nat} {items : Array Value} {old : Value} {Q : Option Value → Shared → Prop} (hh : A.handled = none)
    (he : IsEnum s.heap e it i old) (hit : s.heap.IsTupleIter it l i) (hl : s.heap.IsTuple l items) (hx : items[i]? = none)
    (hQ : ∀ h', Heap.ExtBut it s.heap h' → Q none { s with heap := h' }) : wpAny (model prog w) A (pyNext (.ref e)) Q E s := by
  have hT : s.TypeIs (.ref e) "enumerate" := ⟨_, he, rfl⟩
  unfold pyNext
  refine wpAny_bind (wpAny_attempt (wpAny_callSpecial?_slot (name := Str.ofString "__next__") hT PySem.F.slot_enumerate_next
    (wpAny_call_entry PySem.F.slot_enumerate_next hT PySem.F.entry_enumerate_next ?_ (PySem.F.args_enumerate_next_1 _))))
  show wpAny _ _ (field (.ref e) 2 >>= _) _ _ _
  refine wpAny_bind (wpAny_field he rfl (x := .ref it) rfl ?_)
  refine wpAny_bind (wpAny_nextOf_tuple_end hh hit hl hx fun h' x he' hx' => ?_)
  obtain ⟨o, ho, hc⟩ := hx'
  refine wpAny_bind (wpAny_isInstance (T := "StopIteration") (b := true) ⟨o, ho, hc⟩ isSubtype_stop ?_)
  exact wpAny_pure (hQ _ he')
/-- the tuple at a, each item in a new pair -/
def IteT (K : PySem.W.Frag) (a : Addr) : It :=
  ⟨fun i H => ∃ (xs : List V) (x : V), SqT K H a xs ∧ xs[i]? = some x, fun i H v H' => ∃ T x, v = .ref T ∧ H T = none ∧ H' = upd H T (.tup [.int (i : Nat), x]) ∧ ∀ xs, SqT K H a xs → xs[i]? = some x, fun i H => ∃ xs : List V, SqT K H a xs ∧ xs.length ≤ i⟩
theorem turn_enumT {P : Program} {w : World} {K : PySem.W.Frag} {elts : List Expr} {kk : Nat} {tpos : Pos} (a e it : Addr) (hae : e ≠ a) (hai : a ≠ it) :
    Turn P w K (.Tuple elts kk tpos) (IteT K a) [e, it] e (fun i h => (∃ old, IsEnum h e it ((i : Nat) : Int) old) ∧ h.IsTupleIter it a i ∧ e ≠ it) where
  mem := by simp
  obj := fun i h st b hb => by
    obtain ⟨⟨old, he⟩, ⟨o, ho, hc, hd⟩, _⟩ := st
    have e' : b = e ∨ b = it := by simpa using hb
    rcases e' with z | z
    · rw [z]; exact ⟨_, he, fun v q => nomatch q⟩
    · rw [z]; exact ⟨o, ho, fun v q => by rw [hd] at q; cases q⟩
  keep := fun i h h' st k => let ⟨⟨old, he⟩, hi, hne⟩ := st; ⟨⟨old, k e (by simp) _ he⟩, hi.at fun o q => k it (by simp) o q, hne⟩
  item := by
    intro X hP hw hK hc i pins s σ H E I hf st hg
    subst hP hw hK
    obtain ⟨⟨old, he⟩, hit, hne⟩ := st
    obtain ⟨xs, x, hq, hx⟩ := hg
    obtain ⟨its, rv, p, hz⟩ := I.tuple hq
    obtain ⟨u, hu, ru⟩ := rv.get hx
    have hel : e < s.heap.objs.size := Heap.lt_size he
    have hil : it < s.heap.objs.size := by obtain ⟨_, q, _⟩ := hit; exact Heap.lt_size q
    have hlt : i < its.toArray.size := by
      have := (List.getElem?_eq_some_iff.mp hu).1
      simpa using this
    refine wpAny_pyNext_enum_itemD (Draws.tuple (A := X.A.in1) (I.ok.hd hc) it a hai its.toArray) he ⟨hit, p⟩ hlt hne (by
      intro z
      have z' : e = it ∨ e = a := by simpa using z
      rcases z' with z | z
      · exact hne z
      · exact hae z) fun x1 h' tk hx1 ho hst' hT hsz hk => ?_
    have ex1 : x1 = u := by
      have q : its.toArray[i]? = some u := by simpa using hu
      exact Option.some.inj ((show its.toArray[i]? = some x1 from hx1).symm.trans q)
    subst ex1
    refine ⟨_, rfl, wpAny_letOwnedTupleGo_enum (s := { s with heap := h', toks := tk + 1 }) ho fun h'' he' sb => ?_⟩
    have hT2 : h''.get? s.heap.objs.size = some { cls := .type "tuple", data := .seq #[.int i tk, x1] } := (sb.2 _ (Nat.ne_of_gt hel)).trans hT
    have new : ObjOk X.prog X.w (upd H s.heap.objs.size (.tup [.int (i : Nat), x])) h'' s.heap.objs.size (.tup [.int (i : Nat), x]) :=
      ⟨by show 2 ≤ sizeLine; decide, [.int i tk, x1], .cons ⟨_, rfl⟩ (.cons ru .nil), ⟨_, hT2, rfl, _, rfl⟩⟩
    have I1 : Inv X pins σ (upd H s.heap.objs.size (.tup [.int (i : Nat), x])) { s with heap := h'', toks := tk + 1 } :=
      I.turnedNew (ch := [e, it]) (fun b ob hb q => (sb.2 b (fun z => hb (by simp [z]))).trans (hk b ob (fun z => hb (by simp [z])) (fun z => hb (by simp [z])) q)) hf (Nat.le_refl _) new
    refine ⟨.ref s.heap.objs.size, _, I1, rfl, ⟨_, x, rfl, I.hok.fresh (Nat.le_refl _), rfl, fun ys hy => by rw [I.tuple_inj hy hq]; exact hx⟩, ⟨⟨x1, ?_⟩, hst'.1.at fun o q => (sb.2 it (Ne.symm hne)).trans q, hne⟩, fun b hb => ?_⟩
    · have e1 : ((i + 1 : Nat) : Int) = (i : Int) + 1 := by omega
      rw [e1]; exact he'
    · have hb' : b < s.heap.objs.size := by
        have e' : b = e ∨ b = it := by simpa using hb
        rcases e' with z | z
        · rw [z]; exact hel
        · rw [z]; exact hil
      rw [upd_ne (Nat.ne_of_lt hb')]
      exact (hf b hb).1
  done := by
    intro X hP hw hK hc i pins s σ H E I hf st hg
    subst hP hw hK
    obtain ⟨⟨old, he⟩, hit, hne⟩ := st
    obtain ⟨xs, hq, hx⟩ := hg
    obtain ⟨its, rv, p, hz⟩ := I.tuple hq
    obtain ⟨f0, f1, f2, f3, f4, f5⟩ := hf it (by simp)
    have hl := rv.length
    exact enum_endT (I.ok.hd hc) he hit p (by simp; omega) fun h' eb => ⟨rfl, I.turned (t' := s.toks) (fun b o hb q => eb b o hb q) f0 f1 f3 f4 f5⟩
  self := fun A i s Q E st h => let ⟨⟨_, he⟩, _⟩ := st; wpAny_pyIter_enum he h
section
variable {τ : Tn} {G : Gx} {cp : List Str} {N : List Str} {sc : Scope} {k : Nat} {X : Cx} {e e2 : Expr} {elts : List Expr} {kk : Nat} {tv tw : UV} {pos p tpos : Pos}
def iEnumU (K : PySem.W.Frag) (ta : TA) : TI := fun σ H R => ta σ H fun vs H1 => ∃ a xs, vs = [.ref a] ∧ ((SqL K H1 a xs ∧ R (Ite K a) H1) ∨ (SqT K H1 a xs ∧ R (IteT K a) H1))
theorem pi_enumU {ta : TA} (hg : Gl X "enumerate") (hm : X.mg "enumerate" = none) (ha : PA X [e] ta) (hs : starEach [e] X.env = [(false, eval e X.env)] := by rfl) :
    PI X (.Tuple elts kk tpos) (.Call (.Name "enumerate" p) [e] [] pos) (iEnumU X.K ta) := by
  refine ⟨fun pins s σ H R I h => ?_⟩
  refine Call_ (ld_blt I hg hm boot_enumerate (PyProof.Rows.callWith_type1 (thn (ha.run pos pins s σ H _ I h) fun us s1 ⟨vs, H1, I1, r1, q1⟩ => ?_) hs rfl))
  obtain ⟨a, xs, ex, q1⟩ := q1
  subst ex
  have fresh : ∀ b ∈ [s1.heap.objs.size + 1, s1.heap.objs.size], FpOk X pins H1 b := fun b hb => by
    have e' : b = s1.heap.objs.size + 1 ∨ b = s1.heap.objs.size := by simpa using hb
    have hle : s1.heap.objs.size ≤ b := by
      rcases e' with z | z
      · rw [z]; exact Nat.le_add_right _ _
      · rw [z]; exact Nat.le_refl _
    exact I1.fpOk hle (I1.hok.fresh hle)
  cases r1 with
  | cons r rr =>
    cases rr
    cases r
    rcases q1 with ⟨hq, q⟩ | ⟨hq, q⟩
    · obtain ⟨its, rv, p', hz⟩ := I1.list hq
      refine call_enumerate_list p'.isList fun h' he hit hsz hk => wpAny_pyIter_enum he ?_
      have I2 : Inv X pins σ H1 { s1 with heap := h' } := I1.kept (t' := s1.toks) hk
      exact ⟨s1.heap.objs.size + 1, [s1.heap.objs.size + 1, s1.heap.objs.size], _, _, H1, rfl, I2, turn_enum a (s1.heap.objs.size + 1) s1.heap.objs.size, ⟨⟨.none, he⟩, hit, Nat.succ_ne_self _⟩, fresh, q⟩
    · obtain ⟨its, rv, p', hz⟩ := I1.tuple hq
      have hlt : a < s1.heap.objs.size := by
        obtain ⟨o, ho, _⟩ := id p'
        exact Heap.lt_size ho
      refine PuEn.call_enumerate_tuple (show s1.heap.IsTuple a its.toArray from p') fun h' he hit hsz hk => wpAny_pyIter_enum he ?_
      have I2 : Inv X pins σ H1 { s1 with heap := h' } := I1.kept (t' := s1.toks) hk
      exact ⟨s1.heap.objs.size + 1, [s1.heap.objs.size + 1, s1.heap.objs.size], _, _, H1, rfl, I2, turn_enumT a (s1.heap.objs.size + 1) s1.heap.objs.size (Nat.ne_of_gt (Nat.lt_succ_of_lt hlt)) (Nat.ne_of_lt hlt), ⟨⟨.none, he⟩, hit, Nat.succ_ne_self _⟩, fresh, q⟩
def enumD (ds : List D) : List D := (List.range ds.length).zipWith (fun (i : Nat) d => .tuple [.int (i : Int), d]) ds
theorem enumD_len {ds : List D} : (enumD ds).length = ds.length := by simp [enumD]
theorem enumD_get {ds : List D} {i : Nat} {d : D} (h : (enumD ds)[i]? = some d) : ∃ x, ds[i]? = some x ∧ d = .tuple [.int (i : Int), x] := by
  unfold enumD at h
  rw [List.getElem?_zipWith] at h
  cases q : ds[i]? with
  | none => rw [q] at h; cases q2 : (List.range ds.length)[i]? <;> rw [q2] at h <;> cases h
  | some x =>
    have hi : i < ds.length := (List.getElem?_eq_some_iff.mp q).1
    rw [q, List.getElem?_range hi] at h
    exact ⟨x, rfl, (Option.some.inj h).symm⟩
theorem tup_new {K : PySem.W.Frag} {H : Hp} {ow : Addr → Prop} {T : Addr} {vs : List V} {ds : List D} (hn : ∀ a, H a = none → ¬ ow a) (hT : H T = none) (hp : NPh vs) (h : DpAll K (res H ow) vs ds) : Same H (upd H T (.tup vs)) ∧ Dp K (res (upd H T (.tup vs)) ow) (.ref T) (.tuple ds) :=
  have sm : Same H (upd H T (.tup vs)) := fun b o e => by rw [upd_ne (ne_of_none e hT)]; exact e
  ⟨sm, .tup (.inl (.inl (res_put (hn T hT) upd_same hp))) (dpAll_same (res_mono fun b o n e => ⟨n, sm b o e⟩) _ _ h)⟩
theorem itOk_enumL {K : PySem.W.Frag} {a : Addr} {ds : List D} : ItOk K τ (Ite K a) [(.ref a, .list ds)] (enumD ds) where
  go := fun H ow g i hi => by
    rw [enumD_len] at hi
    exact itOk_list.go H ow g i hi
  yld := fun H ow g hn i d hd x H4 hy => by
    obtain ⟨dx, hdx, rfl⟩ := enumD_get hd
    obtain ⟨pp, vs, e, hs, ha⟩ := g _ (List.mem_singleton.mpr rfl)
    cases e
    obtain ⟨T, y, rfl, hT, rfl, hy⟩ := hy
    obtain ⟨v, hv, hdp⟩ := dpAll_get ha hdx
    have := (hy vs (sqL_same res_le hs)).symm.trans hv
    cases this
    exact tup_new hn hT ⟨_, rfl, fun _ z => nomatch z⟩ (.cons (.int _) (.cons hdp .nil))
  stop := fun H ow g i hi => by
    rw [enumD_len] at hi
    exact itOk_list.stop H ow g i hi
theorem itOk_enumT {K : PySem.W.Frag} {a : Addr} {ds : List D} : ItOk K τ (IteT K a) [(.ref a, .tuple ds)] (enumD ds) where
  go := fun H ow g i hi => by
    rw [enumD_len] at hi
    exact itOk_tup.go H ow g i hi
  yld := fun H ow g hn i d hd x H4 hy => by
    obtain ⟨dx, hdx, rfl⟩ := enumD_get hd
    obtain ⟨pp, vs, e, hs, ha⟩ := g _ (List.mem_singleton.mpr rfl)
    cases e
    obtain ⟨T, y, rfl, hT, rfl, hy⟩ := hy
    obtain ⟨v, hv, hdp⟩ := dpAll_get ha hdx
    have := (hy vs (sqT_same res_le hs)).symm.trans hv
    cases this
    exact tup_new hn hT ⟨_, rfl, fun _ z => nomatch z⟩ (.cons (.int _) (.cons hdp .nil))
  stop := fun H ow g i hi => by
    rw [enumD_len] at hi
    exact itOk_tup.stop H ow g i hi
def iEnumS (tv : UV) : UL := fun ρ C => tv ρ fun d => fSeq0 d fun ds => C (enumD ds)
theorem ji_enum (S : Ok cp G N sc k X) (hm : Free G "enumerate") (he : JD τ X e tv) (hg : sc.names.lookup ("enumerate" : Str) = some .globalImplicit := by rfl) (hs : starEach [e] X.env = [(false, eval e X.env)] := by rfl) : JI τ X (.Tuple elts kk tpos) (.Call (.Name "enumerate" p) [e] [] pos) (iEnumS tv) := fun ρ C c H0 γ σ H r R q =>
  wpI_size (wpI_of (pi_enumU (by show X.env.scope.names.lookup _ = _; rw [S.es]; exact hg) (by rw [S.em]; exact hm) (pa_cons pe_w pa_nil (by rw [hs]; rfl)) hs) (he ρ _ c H0 γ σ H r _ fun d v H2 c e1 h => by
    cases h with
    | lst hs ha => exact ⟨_, _, rfl, .inl ⟨sqL_same res_le hs, fun z1 z2 => q _ [(_, _)] _ H2 c e1 (fun p hp => by rw [List.mem_singleton.mp hp]; exact .lst hs ha) itOk_enumL (by rw [enumD_len, ← dpAll_len ha]; exact z1 _ _ (sqL_same res_le hs))⟩⟩
    | tup hs ha => exact ⟨_, _, rfl, .inr ⟨sqT_same res_le hs, fun z1 z2 => q _ [(_, _)] _ H2 c e1 (fun p hp => by rw [List.mem_singleton.mp hp]; exact .tup hs ha) itOk_enumT (by rw [enumD_len, ← dpAll_len ha]; exact z2 _ _ (sqT_same res_le hs))⟩⟩
    | non => exact c.elim
    | bl _ => exact c.elim
    | int _ => exact c.elim
    | str _ => exact c.elim))
theorem jix_enum (S : Ok cp G N sc k X) (hm : Free G "enumerate") (he : JV τ X e tv) (hg : sc.names.lookup ("enumerate" : Str) = some .globalImplicit := by rfl) (hs : starEach [e] X.env = [(false, eval e X.env)] := by rfl) : JIx τ X (.Tuple elts kk tpos) (.Call (.Name "enumerate" p) [e] [] pos) (iEnumS tv) := fun ρ C c H0 γ σ H r R q =>
  wpI_size (wpI_of (pi_enumU (by show X.env.scope.names.lookup _ = _; rw [S.es]; exact hg) (by rw [S.em]; exact hm) (pa_cons pe_w pa_nil (by rw [hs]; rfl)) hs) (he ρ _ c H0 γ σ H r _ fun d v H2 c e1 h => by
    cases d with
    | list ds =>
      obtain ⟨pp, vs, rfl, hs, ha⟩ := id h
      exact ⟨_, _, rfl, .inl ⟨sqL_same res_le hs, fun z1 z2 => q _ [(_, _)] _ H2 c e1 (fun p hp => by rw [List.mem_singleton.mp hp]; exact h) itOk_enumL (by rw [enumD_len, ← dpAll_len ha]; exact z1 _ _ (sqL_same res_le hs))⟩⟩
    | tuple ds =>
      obtain ⟨pp, vs, rfl, hs, ha⟩ := id h
      exact ⟨_, _, rfl, .inr ⟨sqT_same res_le hs, fun z1 z2 => q _ [(_, _)] _ H2 c e1 (fun p hp => by rw [List.mem_singleton.mp hp]; exact h) itOk_enumT (by rw [enumD_len, ← dpAll_len ha]; exact z2 _ _ (sqT_same res_le hs))⟩⟩
    | none => exact c.elim
    | bool _ => exact c.elim
    | int _ => exact c.elim
    | str _ => exact c.elim
    | dict _ => exact c.elim))
/-! ### zip of two -/
def zipD (xs ys : List D) : List D := xs.zipWith (fun x y => .tuple [x, y]) ys
theorem zipD_len {xs ys : List D} : (zipD xs ys).length = min xs.length ys.length := by simp [zipD]
theorem zipD_get {xs ys : List D} {i : Nat} {d : D} (h : (zipD xs ys)[i]? = some d) : ∃ x y, xs[i]? = some x ∧ ys[i]? = some y ∧ d = .tuple [x, y] := by
  unfold zipD at h
  rw [List.getElem?_zipWith] at h
  cases q : xs[i]? with
  | none => rw [q] at h; cases h
  | some x =>
    cases q2 : ys[i]? with
    | none => rw [q, q2] at h; cases h
    | some y => rw [q, q2] at h; exact ⟨x, y, rfl, rfl, (Option.some.inj h).symm⟩
theorem five_mem {c x1 x2 x3 x4 x5 : Addr} (h : c ∈ [x1, x2, x3, x4, x5]) : c = x1 ∨ c = x2 ∨ c = x3 ∨ c = x4 ∨ c = x5 := by simpa using h
theorem tup_newP {K : PySem.W.Frag} {H : Hp} {ow : Addr → Prop} {T : Addr} {o : Obj} {vs : List V} {ds : List D} (hn : ∀ a, H a = none → ¬ ow a) (hT : H T = none) (ho : o.dict = none) (h : DpAll K (res H ow) vs ds) : Same H (upd H T (.frz o (.tup vs))) ∧ Dp K (res (upd H T (.frz o (.tup vs))) ow) (.ref T) (.tuple ds) :=
  have sm : Same H (upd H T (.frz o (.tup vs))) := fun b o e => by rw [upd_ne (ne_of_none e hT)]; exact e
  ⟨sm, .tup (.inl (.inr ⟨o, res_put (hn T hT) upd_same ho⟩)) (dpAll_same (res_mono fun b o n e => ⟨n, sm b o e⟩) _ _ h)⟩
/-- zip of two L: pairs laid plainly -/
def ItzPL (K : PySem.W.Frag) (a b : Addr) : It where
  go := fun i H => ∃ (x y : V) (xs ys : List V), (SqL K H a xs ∧ xs[i]? = some x) ∧ SqL K H b ys ∧ ys[i]? = some y
  yld := fun i H v H' => ∃ (T : Addr) (o : Obj) (x y : V), v = .ref T ∧ H T = none ∧ o.dict = none ∧ H' = upd H T (.frz o (.tup [x, y])) ∧ (∀ l, SqL K H a l → l[i]? = some x) ∧ ∀ l, SqL K H b l → l[i]? = some y
  stop := fun i H => ∃ l r : List V, (SqL K H a l ∧ SqL K H b r) ∧ (l.length ≤ i ∨ r.length ≤ i)
theorem turn_zipPL {P : Program} {w : World} {K : PySem.W.Frag} {es : List Expr} {n : Nat} {tp : Pos} {a b z t1 t2 i1 i2 : Addr} (D : ZipApart z t1 t2 i1 i2 a b) :
    Turn P w K (.Tuple es n tp) (ItzPL K a b) [z, t1, t2, i1, i2] z (fun i h => IsZip h z t1 t2 .none ∧ IsTupOf2 h t1 (.ref i1) (.ref i2) ∧ (∃ x y, IsTupOf2 h t2 x y) ∧ h.IsListIter i1 a i ∧ h.IsListIter i2 b i) where
  mem := List.mem_cons_self ..
  obj := fun i h ⟨g1, g2, ⟨_, _, g3⟩, ⟨o4, g4, _, d4⟩, o5, g5, _, d5⟩ c hc => by
    rcases five_mem hc with rfl | rfl | rfl | rfl | rfl
    · exact ⟨_, g1, fun _ q => nomatch q⟩
    · exact ⟨_, g2, fun _ q => nomatch q⟩
    · exact ⟨_, g3, fun _ q => nomatch q⟩
    · exact ⟨o4, g4, fun _ q => by rw [d4] at q; cases q⟩
    · exact ⟨o5, g5, fun _ q => by rw [d5] at q; cases q⟩
  keep := fun i h h' ⟨g1, g2, ⟨x, y, g3⟩, g4, g5⟩ k => ⟨k z (by simp) _ g1, k t1 (by simp) _ g2, ⟨x, y, k t2 (by simp) _ g3⟩, g4.at fun o q => k i1 (by simp) o q, g5.at fun o q => k i2 (by simp) o q⟩
  item := by
    intro X hP hw hK hc i pins s σ H E I hf ⟨g1, g2, ⟨x0, y0, g3⟩, g4, g5⟩ ⟨x, y, xs, ys, ⟨q1, hx⟩, q2, hy⟩
    subst hP hw hK
    obtain ⟨us, r1, p1, _⟩ := I.list q1
    obtain ⟨ws, r2, p2, _⟩ := I.list q2
    obtain ⟨u, hu, ru⟩ := r1.get hx
    obtain ⟨u', hu', ru'⟩ := r2.get hy
    have zl : z < s.heap.objs.size := Heap.lt_size g1
    refine wpAny_pyNext_zip_item D g1 g2 g3 g4 g5 p1.isList p2.isList (x := u) (y := u') (by simpa using hu) (by simpa using hu') fun h1 e1 e2 e4 e5 hT hsz hk => ?_
    refine ⟨_, rfl, wpAny_letOwnedTupleGo_zip (s := { s with heap := h1 }) e1 fun h2 e6 sb => ?_⟩
    have kp : ∀ c o, c ∉ [z, t1, t2, i1, i2] → s.heap.get? c = some o → h2.get? c = some o := fun c o n q =>
      (sb.2 c (fun e => n (by simp [e]))).trans (hk c o (fun e => n (by simp [e])) (fun e => n (by simp [e])) (fun e => n (by simp [e])) (fun e => n (by simp [e])) q)
    have new : ObjOk X.prog X.w (upd H s.heap.objs.size (.frz (plT [u, u']) (.tup [x, y]))) h2 s.heap.objs.size (.frz (plT [u, u']) (.tup [x, y])) := by
      have hT2 := (sb.2 _ (Nat.ne_of_gt zl)).trans hT
      exact ⟨hT2, (by decide : 2 ≤ sizeLine), [u, u'], .cons ru (.cons ru' .nil), ⟨_, hT2, rfl, _, rfl⟩⟩
    refine ⟨.ref s.heap.objs.size, _, I.turnedNew (t' := s.toks) (ch := [z, t1, t2, i1, i2]) kp hf (Nat.le_refl _) new, rfl, ⟨_, _, x, y, rfl, I.hok.fresh (Nat.le_refl _), rfl, rfl, fun l hl => ?_, fun l hl => ?_⟩, ⟨e6, ?_, ⟨u, u', (sb.2 _ D.TOz).trans e2⟩, e4.at fun o q => (sb.2 _ D.i1z).trans q, e5.at fun o q => (sb.2 _ D.i2z).trans q⟩, fun c hcm => ?_⟩
    · rw [I.list_inj hl q1]; exact hx
    · rw [I.list_inj hl q2]; exact hy
    · exact (sb.2 _ D.TIz).trans (hk _ _ D.TIz D.TITO D.TIi1 D.TIi2 g2)
    · have hlt : c < s.heap.objs.size := by
        rcases five_mem hcm with rfl | rfl | rfl | rfl | rfl
        · exact zl
        · exact Heap.lt_size g2
        · exact Heap.lt_size g3
        · exact Heap.lt_size g4.choose_spec.1
        · exact Heap.lt_size g5.choose_spec.1
      rw [upd_ne (Nat.ne_of_lt hlt)]
      exact (hf c hcm).1
  done := by
    intro X hP hw hK hc i pins s σ H E I hf ⟨g1, g2, ⟨x0, y0, g3⟩, g4, g5⟩ ⟨xs, ys, ⟨q1, q2⟩, hend⟩
    subst hP hw hK
    obtain ⟨us, r1, p1, _⟩ := I.list q1
    obtain ⟨ws, r2, p2, _⟩ := I.list q2
    have l1 := r1.length
    have l2 := r2.length
    refine wpAny_pyNext_zip_end (I.ok.hd hc) D g1 g2 g3 g4 g5 p1.isList p2.isList ?_ fun h1 hk => ⟨rfl, I.turnedL (t' := s.toks) (ch := [z, t1, t2, i1, i2]) (fun c o n q => hk c o (fun e => n (by simp [e])) (fun e => n (by simp [e])) (fun e => n (by simp [e])) (fun e => n (by simp [e])) q) hf⟩
    rcases hend with q | q
    · exact .inl (by simp; omega)
    · exact .inr (by simp; omega)
  self := fun A i s Q E st h => wpAny_pyIter_zip st.1 h
/-- zip of two T: pairs laid plainly -/
def ItzPT (K : PySem.W.Frag) (a b : Addr) : It where
  go := fun i H => ∃ (x y : V) (xs ys : List V), (SqT K H a xs ∧ xs[i]? = some x) ∧ SqT K H b ys ∧ ys[i]? = some y
  yld := fun i H v H' => ∃ (T : Addr) (o : Obj) (x y : V), v = .ref T ∧ H T = none ∧ o.dict = none ∧ H' = upd H T (.frz o (.tup [x, y])) ∧ (∀ l, SqT K H a l → l[i]? = some x) ∧ ∀ l, SqT K H b l → l[i]? = some y
  stop := fun i H => ∃ l r : List V, (SqT K H a l ∧ SqT K H b r) ∧ (l.length ≤ i ∨ r.length ≤ i)
theorem turn_zipPT {P : Program} {w : World} {K : PySem.W.Frag} {es : List Expr} {n : Nat} {tp : Pos} {a b z t1 t2 i1 i2 : Addr} (D : ZipApart z t1 t2 i1 i2 a b) :
    Turn P w K (.Tuple es n tp) (ItzPT K a b) [z, t1, t2, i1, i2] z (fun i h => IsZip h z t1 t2 .none ∧ IsTupOf2 h t1 (.ref i1) (.ref i2) ∧ (∃ x y, IsTupOf2 h t2 x y) ∧ h.IsTupleIter i1 a i ∧ h.IsTupleIter i2 b i) where
  mem := List.mem_cons_self ..
  obj := fun i h ⟨g1, g2, ⟨_, _, g3⟩, ⟨o4, g4, _, d4⟩, o5, g5, _, d5⟩ c hc => by
    rcases five_mem hc with rfl | rfl | rfl | rfl | rfl
    · exact ⟨_, g1, fun _ q => nomatch q⟩
    · exact ⟨_, g2, fun _ q => nomatch q⟩
    · exact ⟨_, g3, fun _ q => nomatch q⟩
    · exact ⟨o4, g4, fun _ q => by rw [d4] at q; cases q⟩
    · exact ⟨o5, g5, fun _ q => by rw [d5] at q; cases q⟩
  keep := fun i h h' ⟨g1, g2, ⟨x, y, g3⟩, g4, g5⟩ k => ⟨k z (by simp) _ g1, k t1 (by simp) _ g2, ⟨x, y, k t2 (by simp) _ g3⟩, g4.at fun o q => k i1 (by simp) o q, g5.at fun o q => k i2 (by simp) o q⟩
  item := by
    intro X hP hw hK hc i pins s σ H E I hf ⟨g1, g2, ⟨x0, y0, g3⟩, g4, g5⟩ ⟨x, y, xs, ys, ⟨q1, hx⟩, q2, hy⟩
    subst hP hw hK
    obtain ⟨us, r1, p1, _⟩ := I.tuple q1
    obtain ⟨ws, r2, p2, _⟩ := I.tuple q2
    obtain ⟨u, hu, ru⟩ := r1.get hx
    obtain ⟨u', hu', ru'⟩ := r2.get hy
    have zl : z < s.heap.objs.size := Heap.lt_size g1
    refine RZ.pyNext_zipT_item D g1 g2 g3 g4 g5 p1 p2 (x := u) (y := u') (by simpa using hu) (by simpa using hu') fun h1 e1 e2 e4 e5 hT hsz hk => ?_
    refine ⟨_, rfl, wpAny_letOwnedTupleGo_zip (s := { s with heap := h1 }) e1 fun h2 e6 sb => ?_⟩
    have kp : ∀ c o, c ∉ [z, t1, t2, i1, i2] → s.heap.get? c = some o → h2.get? c = some o := fun c o n q =>
      (sb.2 c (fun e => n (by simp [e]))).trans (hk c o (fun e => n (by simp [e])) (fun e => n (by simp [e])) (fun e => n (by simp [e])) (fun e => n (by simp [e])) q)
    have new : ObjOk X.prog X.w (upd H s.heap.objs.size (.frz (plT [u, u']) (.tup [x, y]))) h2 s.heap.objs.size (.frz (plT [u, u']) (.tup [x, y])) := by
      have hT2 := (sb.2 _ (Nat.ne_of_gt zl)).trans hT
      exact ⟨hT2, (by decide : 2 ≤ sizeLine), [u, u'], .cons ru (.cons ru' .nil), ⟨_, hT2, rfl, _, rfl⟩⟩
    refine ⟨.ref s.heap.objs.size, _, I.turnedNew (t' := s.toks) (ch := [z, t1, t2, i1, i2]) kp hf (Nat.le_refl _) new, rfl, ⟨_, _, x, y, rfl, I.hok.fresh (Nat.le_refl _), rfl, rfl, fun l hl => ?_, fun l hl => ?_⟩, ⟨e6, ?_, ⟨u, u', (sb.2 _ D.TOz).trans e2⟩, e4.at fun o q => (sb.2 _ D.i1z).trans q, e5.at fun o q => (sb.2 _ D.i2z).trans q⟩, fun c hcm => ?_⟩
    · rw [I.tuple_inj hl q1]; exact hx
    · rw [I.tuple_inj hl q2]; exact hy
    · exact (sb.2 _ D.TIz).trans (hk _ _ D.TIz D.TITO D.TIi1 D.TIi2 g2)
    · have hlt : c < s.heap.objs.size := by
        rcases five_mem hcm with rfl | rfl | rfl | rfl | rfl
        · exact zl
        · exact Heap.lt_size g2
        · exact Heap.lt_size g3
        · exact Heap.lt_size g4.choose_spec.1
        · exact Heap.lt_size g5.choose_spec.1
      rw [upd_ne (Nat.ne_of_lt hlt)]
      exact (hf c hcm).1
  done := by
    intro X hP hw hK hc i pins s σ H E I hf ⟨g1, g2, ⟨x0, y0, g3⟩, g4, g5⟩ ⟨xs, ys, ⟨q1, q2⟩, hend⟩
    subst hP hw hK
    obtain ⟨us, r1, p1, _⟩ := I.tuple q1
    obtain ⟨ws, r2, p2, _⟩ := I.tuple q2
    have l1 := r1.length
    have l2 := r2.length
    refine RZ.pyNext_zipT_end (I.ok.hd hc) D g1 g2 g3 g4 g5 p1 p2 ?_ fun h1 hk => ⟨rfl, I.turnedL (t' := s.toks) (ch := [z, t1, t2, i1, i2]) (fun c o n q => hk c o (fun e => n (by simp [e])) (fun e => n (by simp [e])) (fun e => n (by simp [e])) (fun e => n (by simp [e])) q) hf⟩
    rcases hend with q | q
    · exact .inl (by simp; omega)
    · exact .inr (by simp; omega)
  self := fun A i s Q E st h => wpAny_pyIter_zip st.1 h
theorem itOk_zipL {K : PySem.W.Frag} {a b : Addr} {xs ys : List D} : ItOk K τ (ItzPL K a b) [(.ref a, .list xs), (.ref b, .list ys)] (zipD xs ys) where
  go := fun H ow g i hi => by
    rw [zipD_len] at hi
    obtain ⟨pp, vs, e, hs, ha⟩ := g _ (List.mem_cons_self ..)
    obtain ⟨pq, ws, e2, hs2, hb⟩ := g _ (List.mem_cons_of_mem _ (List.mem_cons_self ..))
    cases e; cases e2
    obtain ⟨v, hv, _⟩ := dpAll_get ha (List.getElem?_eq_getElem (show i < xs.length by omega))
    obtain ⟨w, hw, _⟩ := dpAll_get hb (List.getElem?_eq_getElem (show i < ys.length by omega))
    exact ⟨v, w, vs, ws, ⟨sqL_same res_le hs, hv⟩, sqL_same res_le hs2, hw⟩
  yld := fun H ow g hn i d hd x H4 hy => by
    obtain ⟨dx, dy, hdx, hdy, rfl⟩ := zipD_get hd
    obtain ⟨pp, vs, e, hs, ha⟩ := g _ (List.mem_cons_self ..)
    obtain ⟨pq, ws, e2, hs2, hb⟩ := g _ (List.mem_cons_of_mem _ (List.mem_cons_self ..))
    cases e; cases e2
    obtain ⟨T, o, x1, y1, rfl, hT, ho, rfl, h1, h2⟩ := hy
    obtain ⟨v, hv, hdp⟩ := dpAll_get ha hdx
    obtain ⟨w, hw, hdp2⟩ := dpAll_get hb hdy
    have := (h1 vs (sqL_same res_le hs)).symm.trans hv
    cases this
    have := (h2 ws (sqL_same res_le hs2)).symm.trans hw
    cases this
    exact tup_newP hn hT ho (.cons hdp (.cons hdp2 .nil))
  stop := fun H ow g i hi => by
    rw [zipD_len] at hi
    obtain ⟨pp, vs, e, hs, ha⟩ := g _ (List.mem_cons_self ..)
    obtain ⟨pq, ws, e2, hs2, hb⟩ := g _ (List.mem_cons_of_mem _ (List.mem_cons_self ..))
    cases e; cases e2
    refine ⟨vs, ws, ⟨sqL_same res_le hs, sqL_same res_le hs2⟩, ?_⟩
    rw [dpAll_len ha, dpAll_len hb]
    omega
theorem itOk_zipT {K : PySem.W.Frag} {a b : Addr} {xs ys : List D} : ItOk K τ (ItzPT K a b) [(.ref a, .tuple xs), (.ref b, .tuple ys)] (zipD xs ys) where
  go := fun H ow g i hi => by
    rw [zipD_len] at hi
    obtain ⟨pp, vs, e, hs, ha⟩ := g _ (List.mem_cons_self ..)
    obtain ⟨pq, ws, e2, hs2, hb⟩ := g _ (List.mem_cons_of_mem _ (List.mem_cons_self ..))
    cases e; cases e2
    obtain ⟨v, hv, _⟩ := dpAll_get ha (List.getElem?_eq_getElem (show i < xs.length by omega))
    obtain ⟨w, hw, _⟩ := dpAll_get hb (List.getElem?_eq_getElem (show i < ys.length by omega))
    exact ⟨v, w, vs, ws, ⟨sqT_same res_le hs, hv⟩, sqT_same res_le hs2, hw⟩
  yld := fun H ow g hn i d hd x H4 hy => by
    obtain ⟨dx, dy, hdx, hdy, rfl⟩ := zipD_get hd
    obtain ⟨pp, vs, e, hs, ha⟩ := g _ (List.mem_cons_self ..)
    obtain ⟨pq, ws, e2, hs2, hb⟩ := g _ (List.mem_cons_of_mem _ (List.mem_cons_self ..))
    cases e; cases e2
    obtain ⟨T, o, x1, y1, rfl, hT, ho, rfl, h1, h2⟩ := hy
    obtain ⟨v, hv, hdp⟩ := dpAll_get ha hdx
    obtain ⟨w, hw, hdp2⟩ := dpAll_get hb hdy
    have := (h1 vs (sqT_same res_le hs)).symm.trans hv
    cases this
    have := (h2 ws (sqT_same res_le hs2)).symm.trans hw
    cases this
    exact tup_newP hn hT ho (.cons hdp (.cons hdp2 .nil))
  stop := fun H ow g i hi => by
    rw [zipD_len] at hi
    obtain ⟨pp, vs, e, hs, ha⟩ := g _ (List.mem_cons_self ..)
    obtain ⟨pq, ws, e2, hs2, hb⟩ := g _ (List.mem_cons_of_mem _ (List.mem_cons_self ..))
    cases e; cases e2
    refine ⟨vs, ws, ⟨sqT_same res_le hs, sqT_same res_le hs2⟩, ?_⟩
    rw [dpAll_len ha, dpAll_len hb]
    omega
/-- zip of a list with a tuple: pairs laid plainly -/
def ItzPM (K : PySem.W.Frag) (a b : Addr) (n1 n2 : Nat) : It where
  go := fun i H => ∃ (x y : V) (xs ys : List V), ((SqL K H a xs ∧ xs[i]? = some x) ∧ SqT K H b ys ∧ ys[i]? = some y) ∧ xs.length = n1 ∧ ys.length = n2
  yld := fun i H v H' => ∃ (T : Addr) (o : Obj) (x y : V), v = .ref T ∧ H T = none ∧ o.dict = none ∧ H' = upd H T (.frz o (.tup [x, y])) ∧ (∀ l, SqL K H a l → l[i]? = some x) ∧ ∀ l, SqT K H b l → l[i]? = some y
  stop := fun i H => ∃ l r : List V, (SqL K H a l ∧ SqT K H b r) ∧ (l.length = n1 ∧ r.length = n2) ∧ (n1 ≤ i ∨ n2 ≤ i)
theorem turn_zipPM {P : Program} {w : World} {K : PySem.W.Frag} {es : List Expr} {n n1 n2 : Nat} {tp : Pos} {a b z t1 t2 i1 i2 : Addr} (ha1 : a ≠ i1) (hb2 : b ≠ i2) (D : ZipSep2 z t1 t2 i1 i2 [i1, a] [i2, b]) :
    Turn P w K (.Tuple es n tp) (ItzPM K a b n1 n2) [z, t1, t2, i1, i2] z (fun i h => (i ≤ n1 ∧ i ≤ n2) ∧ IsZip h z t1 t2 .none ∧ IsTupOf2 h t1 (.ref i1) (.ref i2) ∧ (∃ x y, IsTupOf2 h t2 x y) ∧ h.IsListIter i1 a i ∧ h.IsTupleIter i2 b i) where
  mem := List.mem_cons_self ..
  obj := fun i h ⟨_, g1, g2, ⟨_, _, g3⟩, ⟨o4, g4, _, d4⟩, o5, g5, _, d5⟩ c hc => by
    rcases five_mem hc with rfl | rfl | rfl | rfl | rfl
    · exact ⟨_, g1, fun _ q => nomatch q⟩
    · exact ⟨_, g2, fun _ q => nomatch q⟩
    · exact ⟨_, g3, fun _ q => nomatch q⟩
    · exact ⟨o4, g4, fun _ q => by rw [d4] at q; cases q⟩
    · exact ⟨o5, g5, fun _ q => by rw [d5] at q; cases q⟩
  keep := fun i h h' ⟨g0, g1, g2, ⟨x, y, g3⟩, g4, g5⟩ k => ⟨g0, k z (by simp) _ g1, k t1 (by simp) _ g2, ⟨x, y, k t2 (by simp) _ g3⟩, g4.at fun o q => k i1 (by simp) o q, g5.at fun o q => k i2 (by simp) o q⟩
  item := by
    intro X hP hw hK hc i pins s σ H E I hf ⟨g0, g1, g2, ⟨x0, y0, g3⟩, g4, g5⟩ ⟨x, y, xs, ys, ⟨⟨q1, hx⟩, q2, hy⟩, n1e, n2e⟩
    subst hP hw hK
    obtain ⟨us, r1, p1, _⟩ := I.list q1
    obtain ⟨ws, r2, p2, _⟩ := I.tuple q2
    obtain ⟨u, hu, ru⟩ := r1.get hx
    obtain ⟨u', hu', ru'⟩ := r2.get hy
    have zl : z < s.heap.objs.size := Heap.lt_size g1
    have rl1 := r1.length
    have rl2 := r2.length
    have lu : i < us.length := (List.getElem?_eq_some_iff.mp hu).1
    have lw : i < ws.length := (List.getElem?_eq_some_iff.mp hu').1
    refine wpAny_pyNext_zipD2_item D (Draws.list (show X.A.in1.handled = none from I.ok.hd hc) i1 a ha1 us.toArray) (Draws.tuple (show X.A.in1.handled = none from I.ok.hd hc) i2 b hb2 ws.toArray) g1 g2 g3 ⟨g4, p1.isList⟩ ⟨g5, p2⟩ (by simpa using lu) (by simpa using lw) fun x1 x2 h1 tk y1 y2 e1 e2 e4 e5 hT hsz hk => ?_
    have ex1 : x1 = u := by
      have y1 : us.toArray[i]? = some x1 := y1
      rw [List.getElem?_toArray, hu] at y1
      exact (Option.some.inj y1).symm
    have ex2 : x2 = u' := by
      have y2 : ws.toArray[i]? = some x2 := y2
      rw [List.getElem?_toArray, hu'] at y2
      exact (Option.some.inj y2).symm
    subst ex1 ex2
    refine ⟨_, rfl, wpAny_letOwnedTupleGo_zip (s := { s with heap := h1, toks := tk }) e1 fun h2 e6 sb => ?_⟩
    have kp : ∀ c o, c ∉ [z, t1, t2, i1, i2] → s.heap.get? c = some o → h2.get? c = some o := fun c o n q =>
      (sb.2 c (fun e => n (by simp [e]))).trans (hk c o (fun e => n (by simp [e])) (fun e => n (by simp [e])) (fun e => n (by simp [e])) (fun e => n (by simp [e])) q)
    have new : ObjOk X.prog X.w (upd H s.heap.objs.size (.frz (plT [x1, x2]) (.tup [x, y]))) h2 s.heap.objs.size (.frz (plT [x1, x2]) (.tup [x, y])) := by
      have hT2 := (sb.2 _ (Nat.ne_of_gt zl)).trans hT
      exact ⟨hT2, (by decide : 2 ≤ sizeLine), [x1, x2], .cons ru (.cons ru' .nil), ⟨_, hT2, rfl, _, rfl⟩⟩
    refine ⟨.ref s.heap.objs.size, _, I.turnedNew (t' := tk) (ch := [z, t1, t2, i1, i2]) kp hf (Nat.le_refl _) new, rfl, ⟨_, _, x, y, rfl, I.hok.fresh (Nat.le_refl _), rfl, rfl, fun l hl => ?_, fun l hl => ?_⟩, ⟨⟨by omega, by omega⟩, e6, ?_, ⟨x1, x2, (sb.2 _ D.TOz).trans e2⟩, e4.1.at fun o q => (sb.2 _ D.zi1.symm).trans q, e5.1.at fun o q => (sb.2 _ D.zi2.symm).trans q⟩, fun c hcm => ?_⟩
    · rw [I.list_inj hl q1]; exact hx
    · rw [I.tuple_inj hl q2]; exact hy
    · exact (sb.2 _ D.TIz).trans (hk _ _ D.TIz D.TITO D.TIi1 D.TIi2 g2)
    · have hlt : c < s.heap.objs.size := by
        rcases five_mem hcm with rfl | rfl | rfl | rfl | rfl
        · exact zl
        · exact Heap.lt_size g2
        · exact Heap.lt_size g3
        · exact Heap.lt_size g4.choose_spec.1
        · exact Heap.lt_size g5.choose_spec.1
      rw [upd_ne (Nat.ne_of_lt hlt)]
      exact (hf c hcm).1
  done := by
    intro X hP hw hK hc i pins s σ H E I hf ⟨g0, g1, g2, ⟨x0, y0, g3⟩, g4, g5⟩ ⟨xs, ys, ⟨q1, q2⟩, ⟨n1e, n2e⟩, hend⟩
    subst hP hw hK
    obtain ⟨us, r1, p1, _⟩ := I.list q1
    obtain ⟨ws, r2, p2, _⟩ := I.tuple q2
    have l1 := r1.length
    have l2 := r2.length
    refine wpAny_pyNext_zipD2_end D (Draws.list (show X.A.in1.handled = none from I.ok.hd hc) i1 a ha1 us.toArray) (Draws.tuple (show X.A.in1.handled = none from I.ok.hd hc) i2 b hb2 ws.toArray) g1 g2 g3 ⟨g4, p1.isList⟩ ⟨g5, p2⟩ (by simp; omega) (by simp; omega) (by simp; omega) fun h1 tk hk => ⟨rfl, I.turnedL (t' := tk) (ch := [z, t1, t2, i1, i2]) (fun c o n q => hk c o (fun e => n (by simp [e])) (fun e => n (by simp [e])) (fun e => n (by simp [e])) (fun e => n (by simp [e])) q) hf⟩
  self := fun A i s Q E st h => wpAny_pyIter_zip st.2.1 h
theorem itOk_zipM {K : PySem.W.Frag} {a b : Addr} {n1 n2 : Nat} {xs ys : List D} (n1e : n1 = xs.length) (n2e : n2 = ys.length) : ItOk K τ (ItzPM K a b n1 n2) [(.ref a, .list xs), (.ref b, .tuple ys)] (zipD xs ys) where
  go := fun H ow g i hi => by
    rw [zipD_len] at hi
    obtain ⟨pp, vs, e, hs, ha⟩ := g _ (List.mem_cons_self ..)
    obtain ⟨pq, ws, e2, hs2, hb⟩ := g _ (List.mem_cons_of_mem _ (List.mem_cons_self ..))
    cases e; cases e2
    obtain ⟨v, hv, _⟩ := dpAll_get ha (List.getElem?_eq_getElem (show i < xs.length by omega))
    obtain ⟨w, hw, _⟩ := dpAll_get hb (List.getElem?_eq_getElem (show i < ys.length by omega))
    exact ⟨v, w, vs, ws, ⟨⟨sqL_same res_le hs, hv⟩, sqT_same res_le hs2, hw⟩, by rw [← dpAll_len ha] at n1e; exact n1e.symm, by rw [← dpAll_len hb] at n2e; exact n2e.symm⟩
  yld := fun H ow g hn i d hd x H4 hy => by
    obtain ⟨dx, dy, hdx, hdy, rfl⟩ := zipD_get hd
    obtain ⟨pp, vs, e, hs, ha⟩ := g _ (List.mem_cons_self ..)
    obtain ⟨pq, ws, e2, hs2, hb⟩ := g _ (List.mem_cons_of_mem _ (List.mem_cons_self ..))
    cases e; cases e2
    obtain ⟨T, o, x1, y1, rfl, hT, ho, rfl, h1, h2⟩ := hy
    obtain ⟨v, hv, hdp⟩ := dpAll_get ha hdx
    obtain ⟨w, hw, hdp2⟩ := dpAll_get hb hdy
    have := (h1 vs (sqL_same res_le hs)).symm.trans hv
    cases this
    have := (h2 ws (sqT_same res_le hs2)).symm.trans hw
    cases this
    exact tup_newP hn hT ho (.cons hdp (.cons hdp2 .nil))
  stop := fun H ow g i hi => by
    rw [zipD_len] at hi
    obtain ⟨pp, vs, e, hs, ha⟩ := g _ (List.mem_cons_self ..)
    obtain ⟨pq, ws, e2, hs2, hb⟩ := g _ (List.mem_cons_of_mem _ (List.mem_cons_self ..))
    cases e; cases e2
    refine ⟨vs, ws, ⟨sqL_same res_le hs, sqT_same res_le hs2⟩, ?_⟩
    rw [dpAll_len ha, dpAll_len hb]
    omega
def iZipP (K : PySem.W.Frag) (ta : TA) : TI := fun σ H R => ta σ H fun vs H1 => ∃ a b xs ys, vs = [.ref a, .ref b] ∧ ((SqL K H1 a xs ∧ SqL K H1 b ys ∧ R (ItzPL K a b) H1) ∨ (SqT K H1 a xs ∧ SqT K H1 b ys ∧ R (ItzPT K a b) H1) ∨ (SqL K H1 a xs ∧ SqT K H1 b ys ∧ R (ItzPM K a b xs.length ys.length) H1))
theorem pi_zipP {X : Cx} {e e2 : Expr} {ta : TA} {p pos tp : Pos} {es : List Expr} {n : Nat} (hg : Gl X "zip") (hm : X.mg "zip" = none) (ha : PA X [e, e2] ta)
    (hs : starEach [e, e2] X.env = (false, eval e X.env) :: starEach [e2] X.env := by rfl) (hpl : (backTo pos (starEach [e2] X.env)).any (·.1) = false := by rfl) :
    PI X (.Tuple es n tp) (.Call (.Name "zip" p) [e, e2] [] pos) (iZipP X.K ta) := by
  refine ⟨fun pins s σ H R I h => Call_ (ld_blt I hg hm PyProof.Rows.boot_zip (PyProof.Rows.callWith_type1 (thn (ha.run pos pins s σ H _ I h) fun us s1 ⟨vs, H1, I1, r1, a, b, xs, ys, ex, q1⟩ => ?_) hs hpl))⟩
  subst ex
  cases r1 with
  | cons r rr =>
    cases rr with
    | cons r' rr =>
      cases rr
      cases r
      cases r'
      have fr : ∀ c, c ∈ [s1.heap.objs.size + 4, s1.heap.objs.size + 2, s1.heap.objs.size + 3, s1.heap.objs.size, s1.heap.objs.size + 1] → FpOk X pins H1 c := fun c hcm => by
        have hle : s1.heap.objs.size ≤ c := by
          rcases five_mem hcm with z | z | z | z | z <;> rw [z] <;> first | exact Nat.le_add_right _ _ | exact Nat.le_refl _
        exact I1.fpOk hle (I1.hok.fresh hle)
      rcases q1 with ⟨g1, g2, q⟩ | ⟨g1, g2, q⟩ | ⟨g1, g2, q⟩
      · obtain ⟨us, _, p1, _⟩ := I1.list g1
        obtain ⟨ws, _, p2, _⟩ := I1.list g2
        refine call_zip_2 p1.isList p2.isList fun h' hz e1 e2 e3 e4 hsz hk => wpAny_pyIter_zip hz ?_
        exact ⟨_, _, _, _, H1, rfl, I1.kept (t' := s1.toks) hk, turn_zipPL (PySem.W.ktu_apart s1.heap.objs.size a b p1.lt p2.lt), ⟨hz, e1, ⟨_, _, e2⟩, e3, e4⟩, fr, q⟩
      · obtain ⟨us, _, p1, _⟩ := I1.tuple g1
        obtain ⟨ws, _, p2, _⟩ := I1.tuple g2
        refine RZ.call_zipT (show s1.heap.IsTuple a us.toArray from p1) (show s1.heap.IsTuple b ws.toArray from p2) fun h' hz e1 e2 e3 e4 hsz hk => wpAny_pyIter_zip hz ?_
        exact ⟨_, _, _, _, H1, rfl, I1.kept (t' := s1.toks) hk, turn_zipPT (PySem.W.ktu_apart s1.heap.objs.size a b (Heap.lt_size p1.choose_spec.1) (Heap.lt_size p2.choose_spec.1)), ⟨hz, e1, ⟨_, _, e2⟩, e3, e4⟩, fr, q⟩
      · obtain ⟨us, _, p1, _⟩ := I1.list g1
        obtain ⟨ws, _, p2, _⟩ := I1.tuple g2
        have la := p1.lt
        have lb := Heap.lt_size p2.choose_spec.1
        refine zip_begins2 (begins_list a us.toArray) (begins_tuple b ws.toArray) p1.isList p2 fun h' hz e1 e2 e3 e4 hsz hk => wpAny_pyIter_zip hz ?_
        refine ⟨_, _, _, _, H1, rfl, I1.kept (t' := s1.toks) hk, turn_zipPM (Nat.ne_of_lt la) (Nat.ne_of_lt (Nat.lt_succ_of_lt lb)) (zip_sep2 (fp1 := [a]) (fp2 := [b]) (fun c hc => by rw [List.mem_singleton.mp hc]; exact la) (fun c hc => by rw [List.mem_singleton.mp hc]; exact lb)), ⟨⟨Nat.zero_le _, Nat.zero_le _⟩, hz, e1, ⟨_, _, e2⟩, ⟨_, e3, rfl, rfl⟩, ⟨_, e4, rfl, rfl⟩⟩, fr, q⟩
def fZip : D → D → (List D → Prop) → Prop
  | .list xs, .list ys, C => C (zipD xs ys)
  | .tuple xs, .tuple ys, C => C (zipD xs ys)
  | .list xs, .tuple ys, C => C (zipD xs ys)
  | _, _, _ => False
def iZip2 (tv tw : UV) : UL := fun ρ C => tv ρ fun x => tw ρ fun y => fZip x y C
theorem jix_zip (S : Ok cp G N sc k X) (hm : Free G "zip") (he : JV τ X e tv) (he2 : JV τ X e2 tw) (hg : sc.names.lookup ("zip" : Str) = some .globalImplicit := by rfl) (hs : starEach [e, e2] X.env = (false, eval e X.env) :: starEach [e2] X.env := by rfl) (hs2 : starEach [e2] X.env = (false, eval e2 X.env) :: starEach [] X.env := by rfl) (hpl : (backTo pos (starEach [e2] X.env)).any (·.1) = false := by rfl) :
    JIx τ X (.Tuple elts kk tpos) (.Call (.Name "zip" p) [e, e2] [] pos) (iZip2 tv tw) := fun ρ C c H0 γ σ H r R q =>
  wpI_size (wpI_of (pi_zipP (by show X.env.scope.names.lookup _ = _; rw [S.es]; exact hg) (by rw [S.em]; exact hm) (pa_cons pe_w (pa_cons pe_w pa_nil hs2) hs) hs hpl) (he ρ _ c H0 γ σ H r _ fun d1 v1 H2 c e1 h1 => he2 ρ _ c H0 γ σ H2 (r.after e1) _ fun d2 v2 H3 c e2 h2 => by
    have h1 := h1.after e2
    cases d1 with
    | list xs =>
      cases d2 <;> first | exact c.elim | skip
      · obtain ⟨a, vs, rfl, hs, ha⟩ := id h1
        obtain ⟨b, ws, rfl, ht, hb⟩ := id h2
        exact ⟨a, b, vs, ws, rfl, .inl ⟨sqL_same res_le hs, sqL_same res_le ht, fun z1 z2 => q _ [(_, _), (_, _)] _ H3 c (e1.trans e2) (fun p hp => by
          rcases List.mem_cons.mp hp with rfl | hp
          · exact h1
          · rw [List.mem_singleton.mp hp]; exact h2) itOk_zipL (by
            have := z1 _ _ (sqL_same res_le hs)
            rw [zipD_len, ← dpAll_len ha]; omega)⟩⟩
      · obtain ⟨a, vs, rfl, hs, ha⟩ := id h1
        obtain ⟨b, ws, rfl, ht, hb⟩ := id h2
        exact ⟨a, b, vs, ws, rfl, .inr (.inr ⟨sqL_same res_le hs, sqT_same res_le ht, fun z1 z2 => q _ [(_, _), (_, _)] _ H3 c (e1.trans e2) (fun p hp => by
          rcases List.mem_cons.mp hp with rfl | hp
          · exact h1
          · rw [List.mem_singleton.mp hp]; exact h2) (itOk_zipM (dpAll_len ha) (dpAll_len hb)) (by
            have := z1 _ _ (sqL_same res_le hs)
            rw [zipD_len, ← dpAll_len ha]; omega)⟩)⟩
    | tuple xs =>
      cases d2 <;> first | exact c.elim | skip
      obtain ⟨a, vs, rfl, hs, ha⟩ := id h1
      obtain ⟨b, ws, rfl, ht, hb⟩ := id h2
      exact ⟨a, b, vs, ws, rfl, .inr (.inl ⟨sqT_same res_le hs, sqT_same res_le ht, fun z1 z2 => q _ [(_, _), (_, _)] _ H3 c (e1.trans e2) (fun p hp => by
        rcases List.mem_cons.mp hp with rfl | hp
        · exact h1
        · rw [List.mem_singleton.mp hp]; exact h2) itOk_zipT (by
          have := z2 _ _ (sqT_same res_le hs)
          rw [zipD_len, ← dpAll_len ha]; omega)⟩)⟩
    | none => cases d2 <;> exact c.elim
    | bool _ => cases d2 <;> exact c.elim
    | int _ => cases d2 <;> exact c.elim
    | str _ => cases d2 <;> exact c.elim
    | dict _ => cases d2 <;> exact c.elim))
theorem ji_zip (S : Ok cp G N sc k X) (hm : Free G "zip") (he : JD τ X e tv) (he2 : JD τ X e2 tw) (hg : sc.names.lookup ("zip" : Str) = some .globalImplicit := by rfl) (hs : starEach [e, e2] X.env = (false, eval e X.env) :: starEach [e2] X.env := by rfl) (hs2 : starEach [e2] X.env = (false, eval e2 X.env) :: starEach [] X.env := by rfl) (hpl : (backTo pos (starEach [e2] X.env)).any (·.1) = false := by rfl) :
    JI τ X (.Tuple elts kk tpos) (.Call (.Name "zip" p) [e, e2] [] pos) (iZip2 tv tw) := fun ρ C c H0 γ σ H r R q =>
  wpI_size (wpI_of (pi_zipP (by show X.env.scope.names.lookup _ = _; rw [S.es]; exact hg) (by rw [S.em]; exact hm) (pa_cons pe_w (pa_cons pe_w pa_nil hs2) hs) hs hpl) (he ρ _ c H0 γ σ H r _ fun d1 v1 H2 c e1 h1 => he2 ρ _ c H0 γ σ H2 (r.after e1) _ fun d2 v2 H3 c e2 h2 => by
    have h1 := dp_after e2 h1
    cases h1 with
    | lst hs ha =>
      cases h2 <;> first | exact c.elim | skip
      · rename_i ht hb
        exact ⟨_, _, _, _, rfl, .inl ⟨sqL_same res_le hs, sqL_same res_le ht, fun z1 z2 => q _ [(_, _), (_, _)] _ H3 c (e1.trans e2) (fun p hp => by
          rcases List.mem_cons.mp hp with rfl | hp
          · exact .lst hs ha
          · rw [List.mem_singleton.mp hp]; exact .lst ht hb) itOk_zipL (by
            have := z1 _ _ (sqL_same res_le hs)
            rw [zipD_len, ← dpAll_len ha]; omega)⟩⟩
      · rename_i ht hb
        exact ⟨_, _, _, _, rfl, .inr (.inr ⟨sqL_same res_le hs, sqT_same res_le ht, fun z1 z2 => q _ [(_, _), (_, _)] _ H3 c (e1.trans e2) (fun p hp => by
          rcases List.mem_cons.mp hp with rfl | hp
          · exact .lst hs ha
          · rw [List.mem_singleton.mp hp]; exact .tup ht hb) (itOk_zipM (dpAll_len ha) (dpAll_len hb)) (by
            have := z1 _ _ (sqL_same res_le hs)
            rw [zipD_len, ← dpAll_len ha]; omega)⟩)⟩
    | tup hs ha =>
      cases h2 <;> first | exact c.elim | skip
      rename_i ht hb
      exact ⟨_, _, _, _, rfl, .inr (.inl ⟨sqT_same res_le hs, sqT_same res_le ht, fun z1 z2 => q _ [(_, _), (_, _)] _ H3 c (e1.trans e2) (fun p hp => by
        rcases List.mem_cons.mp hp with rfl | hp
        · exact .tup hs ha
        · rw [List.mem_singleton.mp hp]; exact .tup ht hb) itOk_zipT (by
          have := z2 _ _ (sqT_same res_le hs)
          rw [zipD_len, ← dpAll_len ha]; omega)⟩)⟩
    | non => cases d2 <;> exact c.elim
    | bl _ => cases d2 <;> exact c.elim
    | int _ => cases d2 <;> exact c.elim
    | str _ => cases d2 <;> exact c.elim))
end
end Pu
namespace Pu
open PySem PySem.Spec PyProof.Rows L2
/-! ### a def of the text -/
def Ar.sl : Ar → Sl
  | .dat d => .dat d
  | .town => .town
  | .th x => .tv x
def en0 (N : List Str) (as : List Ar) : En := as.map Ar.sl ++ List.replicate (N.length - as.length) .un
def sfOf (N : List Str) (np : Nat) (t : US) : Sf := fun as C => as.length = np ∧ t { nx := fun _ => C (.dat .none), rt := fun r => r.lf = true ∧ C r } (en0 N as)
section
variable {G : Gx} {τ : Tn}
theorem paired_get {α β : Type} {F : α → β → Prop} : ∀ {l₁ : List α} {l₂ : List β}, Paired F l₁ l₂ → ∀ (i : Nat) (b : β), l₂[i]? = some b → ∃ a, l₁[i]? = some a ∧ F a b
  | _, _, .nil, i, b, h => by simp at h
  | _, _, .cons h t, 0, b, e => by
    simp only [List.getElem?_cons_zero, Option.some.injEq] at e
    subst e
    exact ⟨_, rfl, h⟩
  | _, _, .cons h t, i + 1, b, e => by
    simp only [List.getElem?_cons_succ] at e
    obtain ⟨a, h1, h2⟩ := paired_get t i b e
    exact ⟨a, by simp [h1], h2⟩
theorem en0_own {N : List Str} {as : List Ar} {i : Nat} {s : Sl} (h : (en0 N as)[i]? = some s) : s.isOwn = false := by
  have hm : s ∈ en0 N as := List.mem_of_getElem? h
  unfold en0 at hm
  rcases List.mem_append.mp hm with hm | hm
  · obtain ⟨a, _, rfl⟩ := List.mem_map.mp hm
    cases a <;> rfl
  · rw [(List.mem_replicate.mp hm).2]; rfl
theorem rep_start {K : PySem.W.Frag} {H : Hp} {N : List Str} {vs : List V} {as : List Ar} (hz : τ.z H) (hi : τ.inv H) (h : ArsOk K τ H vs as) : Rep K τ H [] H (L2.start N vs) (en0 N as) := by
  have hl : vs.length = as.length := Paired.length h
  refine ⟨by simp [L2.start, en0, hl], fun _ _ e _ => e, hi, fun i s hs => ?_, fun i j s t a h1 h2 h3 => ?_, (fun p hp => by cases hp), hz⟩
  · have nown : ∀ a, own τ (L2.start N vs) (en0 N as) a → τ.ad a := fun a z => by
      rcases z with z | ⟨j, u, h1, h2, _⟩
      · exact z
      · rw [en0_own h1] at h2; cases h2
    have le : Same (res H τ.ad) (res H (own τ (L2.start N vs) (en0 N as))) := res_mono fun a o n e => ⟨fun z => n (nown a z), e⟩
    by_cases hi : i < as.length
    · have e1 : (en0 N as)[i]? = (as.map Ar.sl)[i]? := List.getElem?_append_left (by simpa using hi)
      rw [e1, List.getElem?_map] at hs
      obtain ⟨a, ea, rfl⟩ := Option.map_eq_some_iff.mp hs
      obtain ⟨v, ev, hv⟩ := paired_get h i a ea
      have e2 : (L2.start N vs)[i]? = some (some v) := by
        unfold L2.start
        rw [List.getElem?_append_left (by simp; omega), List.getElem?_map, ev]; rfl
      cases a with
      | dat d => exact ⟨v, e2, dp_same le _ _ hv⟩
      | town =>
        show (L2.start N vs)[i]? = some (some τ.val)
        rw [e2, show v = τ.val from hv]
      | th x =>
        obtain ⟨a, rfl, h⟩ := hv
        exact ⟨a, e2, h.same le⟩
    · have e1 : (en0 N as)[i]? = (List.replicate (N.length - as.length) Sl.un)[i - as.length]? := by
        unfold en0
        rw [List.getElem?_append_right (by simp; omega)]; simp
      rw [e1] at hs
      have := List.mem_of_getElem? hs
      rw [(List.mem_replicate.mp this).2]
      trivial
  · rw [en0_own h1] at h3; cases h3
/-- where one stands: the code object, the name that inner defs bear -/
structure AtC (X : Cx) (cd : Value) (q : Str) : Prop where
  code : X.env.code = cd
  qual : X.env.qual = q
def qOf (x : Str) (sc : Scope) : Str := (envOfC x sc 0 0 .none).qual
theorem fnOk_ofC (hz : ∀ H, τ.z H) {x qual : Str} {params : Arguments} {body : List Stmt} {scope : Scope} {dvs : List V} {kws : List (Str × V)} {f : Addr} {fd : FuncData} {N ps : List Str} {k : Nat} {t : US} (F : FunD G.K x qual params body scope dvs kws f fd) (S : FnScope N ps scope)
    (h : ∀ X, Ok [] G N scope k X → AtC X fd.code (qOf qual scope) → JSs τ X body t) : FnOk G.P G.w G.K G.mg G.base CX0 (k + 1) f fd ps (spD G τ (sfOf N ps.length t)) := by
  obtain ⟨oc, od, dV, kV, doc, pm, an, cdv, ct, osl, rfl, lk, hcd, _, _⟩ := F.ex
  refine fn_of lk hcd S (fun vs H Q E h => ?_) (fun A outer s H vs Q E hr h' => ⟨wpSs (cxOf CX0 G.P G.w G.K G.mg G.base N qual scope f cdv A outer s H E).nox body, PSs.nox pss_w, ?_⟩)
  · obtain ⟨as, C, h1, _, h2, _⟩ := h
    exact (Paired.length h1).trans h2.1
  · obtain ⟨as, C, h1, hi, h2, hq⟩ := h'
    have O : Ok [] G N scope k (cxOf CX0 G.P G.w G.K G.mg G.base N qual scope f cdv A outer s H E).nox := ⟨rfl, rfl, rfl, rfl, rfl, rfl, S.nd, rfl, S.kind, rfl, hr, fun _ _ _ => rfl, PassesOwn.never⟩
    refine h _ O ⟨rfl, rfl⟩ _ _ h2.2 H [] _ H (rep_start (hz _) hi h1) _ ⟨fun ρ σ H' c r => hq (.dat .none) .non H' rfl c ⟨r.ext, fun _ => r.inv⟩ .non, fun ρ σ H' c r => c.elim, fun ρ σ H' c r => c.elim, fun r v H' c e i z => hq r v H' c.1 c.2 ⟨e, fun _ => i⟩ z⟩
theorem fnOk_of (hz : ∀ H, τ.z H) {x qual : Str} {params : Arguments} {body : List Stmt} {scope : Scope} {dvs : List V} {kws : List (Str × V)} {f : Addr} {fd : FuncData} {N ps : List Str} {k : Nat} {t : US} (F : FunD G.K x qual params body scope dvs kws f fd) (S : FnScope N ps scope)
    (h : ∀ X, Ok [] G N scope k X → JSs τ X body t) : FnOk G.P G.w G.K G.mg G.base CX0 (k + 1) f fd ps (spD G τ (sfOf N ps.length t)) := fnOk_ofC hz F S fun X O _ => h X O
/-- the facts of a def's name -/
structure Dn (G : Gx) (x : Str) (st : Stmt) (dvs : List V) (kws : List (Str × V)) (f : Addr) (fd : FuncData) : Prop where
  fn : FunD G.K x x (defArgs st) (defBody st) (defScope st) dvs kws f fd
  gl : G.mg x = some (.ref f)
theorem fnD_of (hz : ∀ H, τ.z H) {x : Str} {st : Stmt} {f : Addr} {fd : FuncData} {N ps : List Str} {k : Nat} {t : US} (F : Dn G x st [] [] f fd) (S : FnScope N ps (defScope st))
    (hb : ∀ (kV doc pm : Value) (an : Option Addr) (cdv ct : Value) (us : List Value), us.length = ps.length → bindArgs (PySem.W.fnOf x x (defArgs st) (defBody st) (defScope st) .none kV doc pm an cdv ct) ⟨us, []⟩ = pure (ps.zip us))
    (h : ∀ X, Ok [] G N (defScope st) k X → JSs τ X (defBody st) t) : FnD G τ (k + 1) x ps (sfOf N ps.length t) :=
  ⟨⟨f, fd, fnOk_of hz F.fn S h, F.gl, F.fn.kp, F.fn.bindsN hb⟩⟩
theorem fnD_ofC (hz : ∀ H, τ.z H) {x : Str} {st : Stmt} {f : Addr} {fd : FuncData} {N ps : List Str} {k : Nat} {t : US} (F : Dn G x st [] [] f fd) (S : FnScope N ps (defScope st))
    (hb : ∀ (kV doc pm : Value) (an : Option Addr) (cdv ct : Value) (us : List Value), us.length = ps.length → bindArgs (PySem.W.fnOf x x (defArgs st) (defBody st) (defScope st) .none kV doc pm an cdv ct) ⟨us, []⟩ = pure (ps.zip us))
    (h : ∀ X, Ok [] G N (defScope st) k X → AtC X fd.code (qOf x (defScope st)) → JSs τ X (defBody st) t) : FnD G τ (k + 1) x ps (sfOf N ps.length t) :=
  ⟨⟨f, fd, fnOk_ofC hz F.fn S h, F.gl, F.fn.kp, F.fn.bindsN hb⟩⟩
/-- a def with other things handed over (hand contract): the Binds alone -/
theorem fnD_mk {x : Str} {st : Stmt} {f : Addr} {fd : FuncData} {ps : List Str} {k : Nat} {S : Sf} (F : Dn G x st [] [] f fd) (h : FnOk G.P G.w G.K G.mg G.base CX0 k f fd ps (spD G τ S))
    (hb : ∀ (kV doc pm : Value) (an : Option Addr) (cdv ct : Value) (us : List Value), us.length = ps.length → bindArgs (PySem.W.fnOf x x (defArgs st) (defBody st) (defScope st) .none kV doc pm an cdv ct) ⟨us, []⟩ = pure (ps.zip us)) : FnD G τ k x ps S := ⟨⟨f, fd, h, F.gl, F.fn.kp, F.fn.bindsN hb⟩⟩
/-- S' may be told instead of S -/
theorem FnD.weaken {k : Nat} {x : Str} {ps : List Str} {S S' : Sf} (F : FnD G τ k x ps S) (h : ∀ as C, S' as C → S as C) : FnD G τ k x ps S' := by
  obtain ⟨f, fd, h1, h2, h3, h4⟩ := F.ex
  refine ⟨⟨f, fd, ⟨fun vs H Q E ⟨as, C, a, b, c, d⟩ => h1.len vs H Q E ⟨as, C, a, b, h _ _ c, d⟩, fun A outer s H args us vs Q E hr e0 hb r ⟨as, C, a, b, c, d⟩ => h1.run A outer s H args us vs Q E hr e0 hb r ⟨as, C, a, b, h _ _ c, d⟩⟩, h2, h3, h4⟩⟩
theorem FnD.mono {j k : Nat} {x : Str} {ps : List Str} {S : Sf} (F : FnD G τ j x ps S) (h : j ≤ k) : FnD G τ k x ps S := by
  obtain ⟨f, fd, h1, h2, h3, h4⟩ := F.ex
  exact ⟨⟨f, fd, ⟨h1.len, fun A outer s H args us vs Q E hr => h1.run A outer s H args us vs Q E (hr.mono h)⟩, h2, h3, h4⟩⟩
end
end Pu
namespace Pu
open PySem PySem.Spec PyProof.Rows L2
/-! ### the town: a dict of a count and of rests -/
def RestOk (kvs : List (Key × V)) : Prop := (kvs.map (·.1)).Nodup ∧ ∀ p ∈ kvs, ∃ (i : Nat) (n : Int), p = (.inl (i : Int), .int n) ∧ i < 64
def twInv (T R : Addr) (H : Hp) : Prop := T ≠ R ∧ ∃ (c : Int) (kvs : List (Key × V)), H T = some (.dK [(.inr "count", .int c), (.inr "rests", .ref R)]) ∧ H R = some (.dK kvs) ∧ RestOk kvs
def tw (T R : Addr) (Ts : List (Addr × Str)) (z : Hp → Prop) : Tn where
  ad := fun a => a = T ∨ a = R ∨ ∃ p ∈ Ts, a = p.1
  inv := fun H => twInv T R H ∧ LamX.Tabs Ts H
  val := .ref T
  tr := fun {H a} h q => by
    obtain ⟨⟨_, c, kvs, h1, h2, _⟩, ht⟩ := h
    rcases q with rfl | rfl | ⟨p, hp, rfl⟩
    · exact ⟨_, h1, trivial⟩
    · exact ⟨_, h2, trivial⟩
    · obtain ⟨ps, h3, _⟩ := ht p hp
      exact ⟨_, h3, trivial⟩
  dep := fun {H H'} e h => by
    obtain ⟨⟨n, c, kvs, h1, h2, h3⟩, ht⟩ := h
    refine ⟨⟨n, c, kvs, e T _ h1 (.inl (.inl rfl)), e R _ h2 (.inl (.inr (.inl rfl))), h3⟩, fun p hp => ?_⟩
    obtain ⟨ps, g1, g2, g3⟩ := ht p hp
    refine ⟨ps, e _ _ g1 (.inl (.inr (.inr ⟨p, hp, rfl⟩))), g2, fun pos cv q => ?_⟩
    obtain ⟨c0, e1, e2⟩ := g3 pos cv q
    exact ⟨c0, e1, e _ _ e2 (.inr codeO_nlk)⟩
  z := z
theorem pig : ∀ (n : Nat) (l : List Nat), l.Nodup → (∀ x ∈ l, x < n) → l.length ≤ n
  | 0, [], _, _ => Nat.le_refl _
  | 0, a :: l, _, h => absurd (h a (List.mem_cons_self ..)) (by omega)
  | n + 1, l, hn, h => by
    have h1 := pig n (l.erase n) (hn.erase n) fun x hx => by
      have hm : x ∈ l := List.mem_of_mem_erase hx
      have h2 := h x hm
      have h3 : x ≠ n := fun z => by subst z; exact (List.Nodup.not_mem_erase hn) hx
      omega
    have := List.length_erase (a := n) (l := l)
    split at this <;> omega
theorem RestOk.len {kvs : List (Key × V)} (h : RestOk kvs) : kvs.length ≤ 64 := by
  have e : ∀ {kvs : List (Key × V)}, RestOk kvs → ∃ l : List Nat, kvs.map (·.1) = l.map (fun i : Nat => (Sum.inl (i : Int) : Key)) ∧ ∀ x ∈ l, x < 64 := by
    intro kvs h
    induction kvs with
    | nil => exact ⟨[], rfl, fun x hx => by cases hx⟩
    | cons p r ih =>
      obtain ⟨l, e, hl⟩ := ih ⟨(List.nodup_cons.mp h.1).2, fun q hq => h.2 q (List.mem_cons_of_mem _ hq)⟩
      obtain ⟨i, n, rfl, hi⟩ := h.2 p (List.mem_cons_self ..)
      exact ⟨i :: l, by simp [e], fun x hx => by
        rcases List.mem_cons.mp hx with rfl | hx
        · exact hi
        · exact hl x hx⟩
  obtain ⟨l, e1, hl⟩ := e h
  have hn : l.Nodup := by
    have := h.1
    rw [e1] at this
    exact (List.pairwise_map.mp this).imp fun h z => h (by rw [z])
  have := pig 64 l hn hl
  have e2 := congrArg List.length e1
  simp at e2
  omega
theorem RestOk.put {kvs : List (Key × V)} (h : RestOk kvs) (i : Nat) (n : Int) (hi : i < 64) : RestOk (putK kvs (.inl (i : Int)) (.int n)) := by
  unfold putK
  split
  · constructor
    · rw [List.map_map]
      have e : ((fun x : Key × V => x.1) ∘ fun kv : Key × V => if kv.1 = Sum.inl (i : Int) then (kv.1, V.int n) else kv) = (·.1) := by
        funext kv
        show (if kv.1 = Sum.inl (i : Int) then (kv.1, V.int n) else kv).1 = kv.1
        split <;> rfl
      rw [e]; exact h.1
    · intro p hp
      obtain ⟨q, hq, rfl⟩ := List.mem_map.mp hp
      obtain ⟨j, m, rfl, hj⟩ := h.2 q hq
      by_cases e : (Sum.inl (j : Int) : Key) = Sum.inl (i : Int)
      · exact ⟨j, n, by simp [e], hj⟩
      · exact ⟨j, m, by simp [e], hj⟩
  · rename_i hno
    constructor
    · rw [List.map_append]
      refine nd_snoc h.1 fun m => hno ?_
      obtain ⟨p, hp, e⟩ := List.mem_map.mp m
      exact List.any_eq_true.mpr ⟨p, hp, decide_eq_true e⟩
    · intro p hp
      rcases List.mem_append.mp hp with hp | hp
      · exact h.2 p hp
      · rw [List.mem_singleton.mp hp]
        exact ⟨i, n, rfl, hi⟩
theorem RestOk.get {kvs : List (Key × V)} (h : RestOk kvs) (k : Key) (v : V) (e : valV kvs k = some v) : ∃ n : Int, v = .int n := by
  unfold valV at e
  obtain ⟨p, hp, rfl⟩ := Option.map_eq_some_iff.mp e
  obtain ⟨i, n, rfl, _⟩ := h.2 p (List.mem_of_find?_eq_some hp)
  exact ⟨n, rfl⟩
section
variable {T R : Addr} {Ts : List (Addr × Str)} {z : Hp → Prop} {G : Gx} {cp : List Str} {N : List Str} {sc : Scope} {k : Nat} {X : Cx} {e f value : Expr} {tv tw' : UV} {x : Str} {p1 p2 p3 p4 p5 p6 p7 p8 pos : Pos} {j1 j2 j3 : Nat}
theorem un1 (S : Ok cp G N sc k X) : X.A.units + 1 < cLine := by have := S.room.un; omega
theorem val_count {c : Int} : valV ([(.inr "count", .int c), (.inr "rests", .ref R)] : List (Key × V)) (.inr "count") = some (.int c) := valV_pos rfl
theorem val_rests {c : Int} : valV ([(.inr "count", .int c), (.inr "rests", .ref R)] : List (Key × V)) (.inr "rests") = some (.ref R) := by
  rw [valV_neg (show ¬ (Sum.inr ("count" : Str) : Key) = Sum.inr ("rests" : Str) from by decide)]
  exact valV_pos rfl
theorem put_count {c d : Int} : putK ([(.inr "count", .int c), (.inr "rests", .ref R)] : List (Key × V)) (.inr "count") (.int d) = [(.inr "count", .int d), (.inr "rests", .ref R)] := by
  have h : ¬ ("rests" : Str) = ("count" : Str) := by decide
  unfold putK
  simp [h]
theorem tabs_upd {H : Hp} {a : Addr} {o : HO} {kvs : List (Key × V)} (h : H a = some (.dK kvs)) (t : LamX.Tabs Ts H) : LamX.Tabs Ts (upd H a o) := fun p hp => by
  obtain ⟨ps, g1, g2, g3⟩ := t p hp
  have n1 : p.1 ≠ a := fun q => by rw [q, h] at g1; cases g1
  refine ⟨ps, by rw [upd_ne n1]; exact g1, g2, fun pos cv q => ?_⟩
  obtain ⟨c0, e1, e2⟩ := g3 pos cv q
  have n2 : c0 ≠ a := fun q => by rw [q, h] at e2; cases e2
  exact ⟨c0, e1, by rw [upd_ne n2]; exact e2⟩
theorem ext_tick {H : Hp} {c : Int} (hi : (tw T R Ts z).inv H) : Ext (tw T R Ts z) H (upd H T (.dK [(.inr "count", .int c), (.inr "rests", .ref R)])) :=
  ⟨fun a o ea na => by rw [upd_ne fun q => na (.inl q)]; exact ea, fun _ => by
    obtain ⟨⟨n, c0, kvs, h1, h2, h3⟩, ht⟩ := hi
    exact ⟨⟨n, c, kvs, upd_same, by rw [upd_ne (Ne.symm n)]; exact h2, h3⟩, tabs_upd h1 ht⟩⟩
theorem ext_rest {H : Hp} {kvs : List (Key × V)} (hi : (tw T R Ts z).inv H) (hk : RestOk kvs) : Ext (tw T R Ts z) H (upd H R (.dK kvs)) :=
  ⟨fun a o ea na => by rw [upd_ne fun q => na (.inr (.inl q))]; exact ea, fun _ => by
    obtain ⟨⟨n, c0, kvs0, h1, h2, h3⟩, ht⟩ := hi
    exact ⟨⟨n, c0, kvs, by rw [upd_ne n]; exact h1, upd_same, hk⟩, tabs_upd h2 ht⟩⟩
def sTick (i : Nat) : US := fun E ρ => ρ[i]? = some .town ∧ E.nx ρ
theorem js_tick (S : Ok cp G N sc k X) (i : Nat) (hN : N[i]? = some x := by rfl) (hv : Vis sc x := by first | exact Or.inl rfl | exact Or.inr (Or.inl rfl) | exact Or.inr (Or.inr rfl)) (hd : (x == ("__debug__" : Str)) = false := by decide) (hcd : (x == ("__classdict__" : Str)) = false := by decide)
    (hsw : swapsWith (.BinOp (.Subscript (.Name x p4) (.Constant (.str "count") j2 p5) p6) .Add (.Constant (.int 1) j3 p7) p8) (some (.Subscript (.Name x p1) (.Constant (.str "count") j1 p2) p3)) pos.line X.env = pure false := by rfl) :
    JS (tw T R Ts z) X (.Assign [.Subscript (.Name x p1) (.Constant (.str "count") j1 p2) p3] (.BinOp (.Subscript (.Name x p4) (.Constant (.str "count") j2 p5) p6) .Add (.Constant (.int 1) j3 p7) p8) pos) (sTick i) := fun ρ E c H0 γ σ H r Dn d => by
  have hp : ∀ p : Pos, PE X (.Name x p) (tVar i) := fun p => pe_var (by rw [S.eN]; exact hN) (by rw [S.es]; exact hv) hd hcd
  refine wpS_of (ps_dput (un1 S) (hp _) pe_str (pe_op op_add (pe_dget (un1 S) (hp _) pe_str (fun _ _ => rfl)) pe_int) hsw) ?_
  have hT : σ[i]? = some (some (.ref T)) := r.sl i _ c.1
  obtain ⟨⟨n, c0, kvs, h1, h2, h3⟩, ht⟩ := r.inv
  refine ⟨_, hT, T, .int c0, rfl, ?_, c0, 1, rfl, rfl, _, hT, T, _, rfl, DPut.k (k := .inr "count") h1 (show 2 < sizeLine from by decide), ?_⟩
  · have := DGet.k (k := .inr "count") h1
    rw [val_count] at this
    exact this
  · rw [put_count]
    exact d.nx ρ σ _ c.2 (r.after (ext_tick r.inv))
def dCount (i : Nat) : UV := fun ρ C => ρ[i]? = some .town ∧ ∀ c : Int, C (.int c)
theorem jd_count (S : Ok cp G N sc k X) (i : Nat) (hN : N[i]? = some x := by rfl) (hv : Vis sc x := by first | exact Or.inl rfl | exact Or.inr (Or.inl rfl) | exact Or.inr (Or.inr rfl)) (hd : (x == ("__debug__" : Str)) = false := by decide) (hcd : (x == ("__classdict__" : Str)) = false := by decide) :
    JD (tw T R Ts z) X (.Subscript (.Name x p4) (.Constant (.str "count") j2 p5) p6) (dCount i) := fun ρ C c H0 γ σ H r Q q => by
  refine wpE_of (pe_dget (un1 S) (pe_var (i := i) (by rw [S.eN]; exact hN) (by rw [S.es]; exact hv) hd hcd) pe_str (fun _ _ => rfl)) ?_
  have hT : σ[i]? = some (some (.ref T)) := r.sl i _ c.1
  obtain ⟨⟨n, c0, kvs, h1, h2, h3⟩, ht⟩ := r.inv
  refine ⟨_, hT, T, .int c0, rfl, ?_, q (.int c0) _ H (c.2 c0) .refl (.int _)⟩
  have := DGet.k (k := .inr "count") h1
  rw [val_count] at this
  exact this
theorem get_rests {H : Hp} {c : Int} (h1 : H T = some (.dK [(.inr "count", .int c), (.inr "rests", .ref R)])) : DGet H T (.str "rests") (some (.ref R)) := by
  have := DGet.k (k := .inr "rests") h1
  rw [val_rests] at this
  exact this
def dRest (i : Nat) (te tf : UV) : UV := fun ρ C => ρ[i]? = some .town ∧ te ρ fun d => ∃ n, d = .int n ∧ tf ρ fun d' => ∃ m, d' = .int m ∧ ∀ n : Int, C (.int n)
theorem jd_rest (S : Ok cp G N sc k X) (i : Nat) (he : JV (tw T R Ts z) X e tv) (hf : JV (tw T R Ts z) X f tw') (hN : N[i]? = some x := by rfl) (hv : Vis sc x := by first | exact Or.inl rfl | exact Or.inr (Or.inl rfl) | exact Or.inr (Or.inr rfl)) (hd : (x == ("__debug__" : Str)) = false := by decide) (hcd : (x == ("__classdict__" : Str)) = false := by decide)
    (m : M2 X (.Subscript (.Name x p4) (.Constant (.str "rests") j2 p5) p6) "get" p7 e f pos := by exact ⟨rfl, rfl, rfl, rfl⟩) :
    JD (tw T R Ts z) X (.Call (.Attribute (.Subscript (.Name x p4) (.Constant (.str "rests") j2 p5) p6) "get" p7) [e, f] [] pos) (dRest i tv tw') := fun ρ C c H0 γ σ H r Q q => by
  refine wpE_of (pe_dget2 (un1 S) (pe_dget (un1 S) (pe_var (i := i) (by rw [S.eN]; exact hN) (by rw [S.es]; exact hv) hd hcd) pe_str (fun _ _ => rfl)) pe_w pe_w m) ?_
  have hT : σ[i]? = some (some (.ref T)) := r.sl i _ c.1
  obtain ⟨⟨n, c0, kvs, h1, h2, h3⟩, ht⟩ := r.inv
  refine ⟨_, hT, T, .ref R, rfl, get_rests h1, R, rfl, .inl ⟨kvs, .inl h2⟩, he ρ _ c.2 H0 γ σ H r _ fun d v H2 c2 e2 b2 => ?_⟩
  obtain ⟨n2, rfl, c2⟩ := c2
  cases b2
  refine hf ρ _ c2 H0 γ σ H2 (r.after e2) _ fun d3 v3 H3 c3 e3 b3 => ?_
  obtain ⟨m3, rfl, c3⟩ := c3
  cases b3
  obtain ⟨⟨_, c1, kvs3, g1, g2, g3⟩, _⟩ := ((r.after e2).after e3).inv
  refine ⟨_, DGet.k (k := .inl n2) g2, ?_⟩
  cases hw : valV kvs3 (.inl n2) with
  | none => exact q _ _ H3 (c3 m3) (e2.trans e3) (.int _)
  | some w =>
    obtain ⟨n4, rfl⟩ := g3.get _ _ hw
    exact q _ _ H3 (c3 n4) (e2.trans e3) (.int _)
def sRest (i : Nat) (ti tv : UV) : US := fun E ρ => ρ[i]? = some .town ∧ tv ρ fun d => ∃ n, d = .int n ∧ ti ρ fun d => ∃ n, d = .int n ∧ 0 ≤ n ∧ n < 64 ∧ E.nx ρ
theorem js_rest (S : Ok cp G N sc k X) (i : Nat) (he : JV (tw T R Ts z) X e tv) (hf : JV (tw T R Ts z) X value tw') (hN : N[i]? = some x := by rfl) (hv : Vis sc x := by first | exact Or.inl rfl | exact Or.inr (Or.inl rfl) | exact Or.inr (Or.inr rfl)) (hd : (x == ("__debug__" : Str)) = false := by decide) (hcd : (x == ("__classdict__" : Str)) = false := by decide)
    (hsw : swapsWith value (some (.Subscript (.Subscript (.Name x p4) (.Constant (.str "rests") j2 p5) p6) e p3)) pos.line X.env = pure false := by rfl) :
    JS (tw T R Ts z) X (.Assign [.Subscript (.Subscript (.Name x p4) (.Constant (.str "rests") j2 p5) p6) e p3] value pos) (sRest i tv tw') := fun ρ E c H0 γ σ H r Dn d => by
  refine wpS_of (ps_dput (un1 S) (pe_dget (un1 S) (pe_var (i := i) (by rw [S.eN]; exact hN) (by rw [S.es]; exact hv) hd hcd) pe_str (fun _ _ => rfl)) pe_w pe_w hsw) ?_
  refine hf ρ _ c.2 H0 γ σ H r _ fun d1 v1 H2 c2 e2 b2 => ?_
  obtain ⟨n2, rfl, c2⟩ := c2
  cases b2
  have hT : σ[i]? = some (some (.ref T)) := r.sl i _ c.1
  obtain ⟨⟨n, c0, kvs, h1, h2, h3⟩, ht⟩ := (r.after e2).inv
  refine ⟨_, hT, T, .ref R, rfl, get_rests h1, he ρ _ c2 H0 γ σ H2 (r.after e2) _ fun d3 v3 H3 c3 e3 b3 => ?_⟩
  obtain ⟨m3, rfl, hm0, hm1, c3⟩ := c3
  cases b3
  have r3 := (r.after e2).after e3
  obtain ⟨⟨_, c1, kvs3, g1, g2, g3⟩, _⟩ := r3.inv
  obtain ⟨j, rfl⟩ : ∃ j : Nat, m3 = (j : Int) := ⟨m3.toNat, by omega⟩
  have gl := g3.len
  refine ⟨R, _, rfl, DPut.k (k := .inl (j : Int)) g2 (Nat.lt_of_le_of_lt gl (by decide)), d.nx ρ σ _ c3 (r3.after (ext_rest r3.inv (g3.put j n2 (by omega))))⟩
end
end Pu
namespace Pu
open PySem PySem.Spec PyProof.Rows L2
/-! ### the town is begun -/
def begunHp (H : Hp) (T R : Addr) : Hp := upd (upd (upd H T (.dK [])) R (.dK [])) T (.dK [(.inr "count", .int 0), (.inr "rests", .ref R)])
def spBegun : Sp := fun vs H Q _ => vs = [] ∧ ∀ T R, T ≠ R → H T = none → H R = none → Q (.ref T) (begunHp H T R)
section
variable {G : Gx}
theorem begun_ok {x : Str} {st : Stmt} {f : Addr} {fd : FuncData} {k : Nat} {p1 p2 p3 p4 p5 p6 : Pos} {j1 j2 j3 : Nat} (F : FunD G.K x x (defArgs st) (defBody st) (defScope st) [] [] f fd) (S : FnScope [] [] (defScope st))
    (hb : defBody st = [.Return (some (.Dict [some (.Constant (.str "count") j1 p1), some (.Constant (.str "rests") j2 p2)] [.Constant (.int 0) j3 p3, .Dict [] [] p4] p5)) p6]) : FnOk G.P G.w G.K G.mg G.base CX0 (k + 1) f fd [] spBegun := by
  refine F.ok S (fun vs H Q E h => by rw [h.1]; rfl) (fun cdv A outer s H vs Q E hr h => ⟨wpSs (cxOf CX0 G.P G.w G.K G.mg G.base [] x (defScope st) f cdv A outer s H E).nox (defBody st), PSs.nox pss_w, ?_⟩)
  rw [hb]
  refine wpSs_of (pss_one (ps_ret (pe_disp (pps_cons pe_str pe_int (pps_cons pe_str pe_dnewK pps_nil)) rfl rfl (by simp) (by simp)))) ?_
  · obtain ⟨rfl, h⟩ := h
    intro T hT R hR
    have hne : T ≠ R := fun z => by rw [← z, upd_same] at hR; cases hR
    have hR' : H R = none := by rw [upd_ne (Ne.symm hne)] at hR; exact hR
    refine ⟨by rw [upd_ne hne, upd_same], [(.inr "count", .int 0), (.inr "rests", .ref R)], rfl, by simp, ?_⟩
    have e : mergeK [] [((.inr "count" : Key), V.int 0), (.inr "rests", .ref R)] = [(.inr "count", .int 0), (.inr "rests", .ref R)] := by
      have h : ¬ ("count" : Str) = ("rests" : Str) := by decide
      simp [mergeK, putK, h]
    rw [e]
    exact h T R hne hT hR'
/-! ### the law's def -/
def spLaw (K : PySem.W.Frag) (Ts : List (Addr × Str)) : Sp := fun vs H Q _ => ∃ (a : Addr) (ns : List Int), vs = [.ref a] ∧ SqL K H a (ns.map V.int) ∧ ns.length ≤ 63 ∧ (∀ p ∈ Ts, H p.1 = some (.tbl #[])) ∧ ∀ H', Q (.bl true) H'
def scrD (ns : List Int) : D := .list (ns.map PyData.int)
def enLaw (N : List Str) (i : Nat) (ns : List Int) : En := (en0 N [.dat (scrD ns)]).set i .town
def edLaw : Ed := { nx := fun _ => False, rt := fun r => r = .dat (.bool true) }
theorem law_ok1 {Ts : List (Addr × Str)} {x : Str} {st : Stmt} {f fB : Addr} {fd fdB : FuncData} {N : List Str} {k j i : Nat} {t : US} {rest : List Stmt} {p1 p2 p3 pos : Pos} {xB xt : Str} (F : FunD G.K x x (defArgs st) (defBody st) (defScope st) [] [] f fd) (S : FnScope N ["script"] (defScope st))
    (hb : defBody st = .Assign [.Name xt p1] (.Call (.Name xB p2) [] [] p3) pos :: rest)
    (FB : FnOk G.P G.w G.K G.mg G.base CX0 j fB fdB [] spBegun) (gB : G.mg xB = some (.ref fB)) (kB : PySem.W.keepIn G.K (.ref fB) = true) (bB : Binds G.K fdB [] [])
    (h : ∀ T R X, Ok [] G N (defScope st) k X → AtC X fd.code (qOf x (defScope st)) → JSs (tw T R Ts fun _ => True) X rest t) (ht : ∀ ns : List Int, ns.length ≤ 63 → t edLaw (enLaw N i ns))
    (hj : j ≤ k) (hN : N[i]? = some xt) (hx : (defScope st).names.lookup xt = some .local) (hi : i ≠ 0) (hg : (defScope st).names.lookup xB = some .globalImplicit) (hdb : (xB == ("__debug__" : Str)) = false)
    (hs : ∀ env : Env, swapsWith (.Call (.Name xB p2) [] [] p3) (some (.Name xt p1)) pos.line env = pure false) : FnOk G.P G.w G.K G.mg G.base CX0 (k + 1) f fd ["script"] (spLaw G.K Ts) := by
  obtain ⟨oc, od, dV, kV, doc, pm, an, cdv, ct, osl, rfl, lk, hcd, _, _⟩ := F.ex
  refine fn_of lk hcd S (fun vs H Q E h => ?_) (fun A outer s H vs Q E hr h' => ⟨wpSs (cxOf CX0 G.P G.w G.K G.mg G.base N x (defScope st) f cdv A outer s H E).nox (defBody st), PSs.nox pss_w, ?_⟩)
  · obtain ⟨a, ns, rfl, _⟩ := h
    rfl
  · obtain ⟨a, ns, rfl, hS, hl, hTs, hq⟩ := h'
    have O : Ok [] G N (defScope st) k (cxOf CX0 G.P G.w G.K G.mg G.base N x (defScope st) f cdv A outer s H E).nox := ⟨rfl, rfl, rfl, rfl, rfl, rfl, S.nd, rfl, S.kind, rfl, hr, fun _ _ _ => rfl, PassesOwn.never⟩
    rw [hb]
    refine wpSs_of (pss_cons (ps_set (i := i) S.nd hN (Or.inl hx) (pe_call0 (CX := CX0) (k := j) (sp := spBegun) (E := E0) (dvs := []) (ds := []) FB (O.room.mono hj) hg gB kB bB .nil pass0 hdb) (hs _) (Or.inr hx)) pss_w) ?_
    refine ⟨rfl, fun T R hne hT hR => ?_⟩
    have hT' : begunHp H T R T = some (.dK [(.inr "count", .int 0), (.inr "rests", .ref R)]) := upd_same
    have hR' : begunHp H T R R = some (.dK []) := by
      unfold begunHp
      rw [upd_ne (Ne.symm hne), upd_same]
    have hkp : ∀ b o, H b = some o → begunHp H T R b = some o := fun b o e => by
      unfold begunHp
      rw [upd_ne (ne_of_none e hT), upd_ne (ne_of_none e hR), upd_ne (ne_of_none e hT)]
      exact e
    have hinv : (tw T R Ts fun _ => True).inv (begunHp H T R) := ⟨⟨hne, 0, [], hT', hR', List.nodup_nil, fun p hp => by cases hp⟩, fun p hp => LamX.TabS.nil (hkp _ _ (hTs p hp))⟩
    have hdp : Dp G.K (res (begunHp H T R) (tw T R Ts fun _ => True).ad) (.ref a) (scrD ns) := by
      refine .lst ?_ (dp_ints ns)
      have : SqL G.K H a (ns.map V.int) := hS
      rcases this with (e | ⟨o, e⟩) | e
      · exact .inl (.inl (res_put (fun z => by
        rcases z with z | z | ⟨p, hp, z⟩ <;> rw [z] at e
        · simp_all
        · simp_all
        · rw [hTs p hp] at e; cases e) (hkp _ _ e)))
      · exact .inl (.inr ⟨o, res_put (fun z => by
        rcases z with z | z | ⟨p, hp, z⟩ <;> rw [z] at e
        · simp_all
        · simp_all
        · rw [hTs p hp] at e; cases e) (hkp _ _ e)⟩)
      · exact .inr e
    have hNl : i < N.length := (List.getElem?_eq_some_iff.mp hN).1
    have rep0 : Rep G.K (tw T R Ts fun _ => True) (begunHp H T R) [] (begunHp H T R) (L2.start N [.ref a]) (en0 N [.dat (scrD ns)]) := rep_start trivial hinv (.cons hdp .nil)
    have rep : Rep G.K (tw T R Ts fun _ => True) (begunHp H T R) [] (begunHp H T R) ((L2.start N [.ref a]).set i (some (.ref T))) (enLaw N i ns) := by
      have hown : ∀ b, own (tw T R Ts fun _ => True) ((L2.start N [.ref a]).set i (some (.ref T))) (enLaw N i ns) b → (tw T R Ts fun _ => True).ad b := fun b z => by
        rcases z with z | ⟨j, u, h1, h2, _⟩
        · exact z
        · by_cases e : i = j
          · subst e
            rw [(set_here h1).1] at h2; cases h2
          · rw [en0_own (set_other e h1)] at h2; cases h2
      refine ⟨by unfold enLaw; simp [rep0.len], fun _ _ e _ => e, hinv, fun j u hu => ?_, fun j l u w b h1 h2 h3 => ?_, (fun p hp => by cases hp), trivial⟩
      · by_cases e : i = j
        · subst e
          obtain ⟨rfl, hi2⟩ := set_here hu
          show ((L2.start N [.ref a]).set i (some (.ref T)))[i]? = some (some (V.ref T))
          exact List.getElem?_set_self (by rw [rep0.len]; exact hi2)
        · rw [List.getElem?_set_ne e]
          refine SlOk.mono (res_mono fun b o n q => ⟨fun z => n (own_ad (hown b z)), q⟩) (fun _ _ _ _ _ q => q) (rep0.sl j u (set_other e hu))
      · by_cases e : i = j
        · subst e
          rw [(set_here h1).1] at h3; cases h3
        · rw [en0_own (set_other e h1)] at h3; cases h3
    refine h T R _ O ⟨rfl, rfl⟩ _ _ (ht ns hl) _ [] _ _ rep _ ⟨fun ρ σ H' c r => c.elim, fun ρ σ H' c r => c.elim, fun ρ σ H' c r => c.elim, fun r v H' c e i z => ?_⟩
    subst c
    have z : Dp G.K (res H' (tw T R Ts fun _ => True).ad) v (.bool true) := z
    cases z
    exact hq H'
/-! ### keyword-only parameters, no other defaults -/
end
section
variable {K : PySem.W.Frag} {x qual : Str} {params : Arguments} {body : List Stmt} {scope : Scope} {kws : List (Str × V)} {f : Addr} {fd : FuncData} {ps : List Str}
theorem kbinds0 (F : FunD K x qual params body scope [] kws f fd) (n : Nat) (ks : List Str) (ms : List (Str × V)) (g : {α : Type} → List α → List α → List α → List α) (hk : kws ≠ []) (hms : ∀ q ∈ ms, q ∈ kws)
    (hrel : ∀ {vs mz zs : List V} {us mv ws : List Value}, Vals vs us → Vals mz mv → Vals zs ws → Vals (g vs mz zs) (g us mv ws))
    (h : ∀ (D : Addr) (doc pm : Value) (an : Option Addr) (cdv ct : Value) (us mv ws : List Value), us.length = n → mv.length = ms.length → ws.length = ks.length →
      KwChain D ((ms.map (·.1)).zip mv) (bindArgs (PySem.W.fnOf x qual params body scope .none (.ref D) doc pm an cdv ct) ⟨us, ks.zip ws⟩) (ps.zip (g us mv ws))) :
    ∃ mv : List Value, KBn K fd ps n ks (fun us ws => g us mv ws) (fun vs zs => g vs (ms.map (·.2)) zs) := by
  obtain ⟨oc, od, dV, kV, doc, pm, an, cdv, ct, osl, rfl, lk, hcd, hD, hK⟩ := F.ex
  rcases hD with ⟨_, rfl⟩ | ⟨e, _⟩
  · rcases hK with e | ⟨D, rfl, hq⟩
    · exact absurd e hk
    · obtain ⟨mv, hl, rk, hks⟩ := kwd_vals (ms := ms) fun q hm => hq q (hms q hm)
      refine ⟨mv, ⟨fun s us ws X l1 l2 => ?_, fun r1 r2 => hrel r1 rk r2⟩⟩
      exact BindsTo.of_looks fun M => KwChain.looks X hks (h D doc pm an cdv ct us mv ws l1 hl l2)
  · exact absurd rfl e
/-- the lacking keyword-only ones are None all -/
theorem fnK_of {G : Gx} {τ : Tn} {st : Stmt} {j : Nat} {S : Sf} {n : Nat} {ks : List Str} (F : Dn G x st [] kws f fd) (ho : FnOk G.P G.w G.K G.mg G.base CX0 j f fd ps (spD G τ S)) (ms : List (Str × V)) (g : {α : Type} → List α → List α → List α → List α) (hk : kws ≠ []) (hms : ∀ q ∈ ms, q ∈ kws)
    (hnone : ms.map (·.2) = List.replicate ms.length .non)
    (hrel : ∀ {α β : Type} {Rr : α → β → Prop} {vs mz zs : List α} {us mv ws : List β}, Paired Rr vs us → Paired Rr mz mv → Paired Rr zs ws → Paired Rr (g vs mz zs) (g us mv ws))
    (h : ∀ (D : Addr) (doc pm : Value) (an : Option Addr) (cdv ct : Value) (us mv ws : List Value), us.length = n → mv.length = ms.length → ws.length = ks.length →
      KwChain D ((ms.map (·.1)).zip mv) (bindArgs (PySem.W.fnOf x x (defArgs st) (defBody st) (defScope st) .none (.ref D) doc pm an cdv ct) ⟨us, ks.zip ws⟩) (ps.zip (g us mv ws))) :
    FnK G τ j x ps S n ks (fun as bs => g as (List.replicate ms.length (.dat .none)) bs) := by
  obtain ⟨mv, hb⟩ := kbinds0 F.fn n ks ms g hk hms hrel h
  refine ⟨⟨f, fd, _, _, ho, F.gl, F.fn.kp, hb, fun K H vs zs as bs h1 h2 => hrel h1 ?_ h2⟩⟩
  rw [hnone]
  generalize ms.length = m
  induction m with
  | zero => exact .nil
  | succ m ih => exact .cons .non ih
/-- plain parameters written with their names -/
theorem fnP_of {G : Gx} {τ : Tn} {st : Stmt} {j : Nat} {S : Sf} {n : Nat} {ks : List Str} (F : Dn G x st [] kws f fd) (ho : FnOk G.P G.w G.K G.mg G.base CX0 j f fd ps (spD G τ S)) (g : {α : Type} → List α → List α → List α → List α)
    (hrel : ∀ {α β : Type} {Rr : α → β → Prop} {vs mz zs : List α} {us mv ws : List β}, Paired Rr vs us → Paired Rr mz mv → Paired Rr zs ws → Paired Rr (g vs mz zs) (g us mv ws))
    (h : ∀ (kV doc pm : Value) (an : Option Addr) (cdv ct : Value) (us ws : List Value), us.length = n → ws.length = ks.length →
      bindArgs (PySem.W.fnOf x x (defArgs st) (defBody st) (defScope st) .none kV doc pm an cdv ct) ⟨us, ks.zip ws⟩ = pure (ps.zip (g us [] ws))) :
    FnK G τ j x ps S n ks (fun as bs => g as (List.replicate 0 (.dat .none)) bs) := by
  have hb : KBn G.K fd ps n ks (fun us ws => g us [] ws) (fun vs zs => g vs [] zs) := by
    obtain ⟨oc, od, dV, kV, doc, pm, an, cdv, ct, osl, rfl, lk, hcd, hD, hK⟩ := F.fn.ex
    rcases hD with ⟨_, rfl⟩ | ⟨e, _⟩
    · exact ⟨fun s us ws X l1 l2 => .of_eq (h kV doc pm an cdv ct us ws l1 l2), fun r1 r2 => hrel r1 .nil r2⟩
    · exact absurd rfl e
  exact ⟨⟨f, fd, _, _, ho, F.gl, F.fn.kp, hb, fun K H vs zs as bs h1 h2 => hrel h1 .nil h2⟩⟩
end
end Pu
namespace Pu
open PySem PySem.Spec PyProof.Rows L2
/-! ### constants of the module -/
mutual
def conB (K : PySem.W.Frag) (u : Value) : D → Bool
  | .none => He.relB .non u
  | .bool b => He.relB (.bl b) u
  | .int i => He.relB (.int i) u
  | .str x => He.relB (.str x) u
  | .list _ => false
  | .dict _ => false
  | .tuple ds => match u with
    | .ref a => (match K.lookup a with
      | some ⟨.type c, _, .seq its _, _⟩ => decide (c = "tuple") && (decide (its.size ≤ sizeLine) && conBs K its.toList ds)
      | _ => false)
    | _ => false
def conBs (K : PySem.W.Frag) (us : List Value) : List D → Bool
  | [] => us.isEmpty
  | d :: ds => match us with
    | u :: us => conB K u d && conBs K us ds
    | [] => false
end
mutual
theorem conB_ok {K : PySem.W.Frag} : ∀ (d : D) (u : Value), conB K u d = true → ∃ v, RelV v u ∧ ∀ H : Hp, Dp K H v d
  | .none, u, h => ⟨.non, He.relB_ok (by simpa [conB] using h), fun _ => .non⟩
  | .bool b, u, h => ⟨.bl b, He.relB_ok (by simpa [conB] using h), fun _ => .bl b⟩
  | .int i, u, h => ⟨.int i, He.relB_ok (by simpa [conB] using h), fun _ => .int i⟩
  | .str x, u, h => ⟨.str x, He.relB_ok (by simpa [conB] using h), fun _ => .str x⟩
  | .list _, u, h => by simp [conB] at h
  | .dict _, u, h => by simp [conB] at h
  | .tuple ds, u, h => by
    cases u with
    | ref a =>
      simp only [conB] at h
      cases q : K.lookup a with
      | none => rw [q] at h; cases h
      | some o =>
        obtain ⟨oc, od, dt, osl⟩ := o
        rw [q] at h
        cases oc with
        | type c =>
          cases dt with
          | seq its n =>
            obtain ⟨h1, h2⟩ := He.ba (show (decide (c = "tuple") && (decide (its.size ≤ sizeLine) && conBs K its.toList ds)) = true from h)
            obtain ⟨h3, h4⟩ := He.ba h2
            obtain ⟨vs, h5, h6⟩ := conBs_ok ds its.toList h4
            exact ⟨.ref a, rfl, fun H => .tup (.inr ⟨_, its, n, q, congrArg Value.type (of_decide_eq_true h1), rfl, of_decide_eq_true h3, h5⟩) (h6 H)⟩
          | _ => cases h
        | _ => cases dt <;> cases h
    | _ => simp [conB] at h
theorem conBs_ok {K : PySem.W.Frag} : ∀ (ds : List D) (us : List Value), conBs K us ds = true → ∃ vs, Vals vs us ∧ ∀ H : Hp, DpAll K H vs ds
  | [], us, h => by
    cases us with
    | nil => exact ⟨[], .nil, fun _ => .nil⟩
    | cons _ _ => simp [conBs] at h
  | d :: ds, us, h => by
    cases us with
    | nil => simp [conBs] at h
    | cons u us =>
      simp only [conBs, Bool.and_eq_true] at h
      obtain ⟨v, h1, h2⟩ := conB_ok d u h.1
      obtain ⟨vs, h3, h4⟩ := conBs_ok ds us h.2
      exact ⟨v :: vs, .cons h1 h3, fun H => .cons (h2 H) (h4 H)⟩
end
/-- the written part's tuples are plain -/
def PlK (K : PySem.W.Frag) : Prop := ∀ a o, K.lookup a = some o → o.cls = .type "tuple" → o.dict = none
def plB (K : PySem.W.Frag) : Bool := K.all fun p => decide (p.2.cls = .type "tuple" → p.2.dict = none)
theorem plB_ok {K : PySem.W.Frag} (h : plB K = true) : PlK K := fun a o e => by
  have hm : (a, o) ∈ K := by
    unfold plB at h
    clear h
    induction K with
    | nil => cases e
    | cons p r ih =>
      obtain ⟨b, u⟩ := p
      rw [List.lookup_cons] at e
      split at e
      · rename_i hb
        cases e
        rw [beq_iff_eq.mp hb]
        exact List.mem_cons_self ..
      · exact List.mem_cons_of_mem _ (ih e)
  exact of_decide_eq_true (List.all_eq_true.mp h (a, o) hm)
/-- a constant; by the name without signs: all tuples are plain -/
def conG (K : PySem.W.Frag) (c : Str × D) : Bool := if c.1 = "" then plB K else match PySem.W.nsIn K mainGlobals c.1 with
  | some (some u) => conB K u c.2
  | _ => false
theorem conG_pl {K : PySem.W.Frag} {d : D} (c : conG K ("", d) = true) : PlK K := plB_ok c
theorem conG_ok {G : Gx} {h : Heap} (X : G.K.In h) (N : h.Ns mainGlobals G.mg) {x : Str} {d : D} (c : conG G.K (x, d) = true) (hx : x ≠ "" := by decide) : GC G x d := by
  unfold conG at c
  rw [if_neg hx] at c
  simp only at c
  cases e : PySem.W.nsIn G.K mainGlobals x with
  | none => rw [e] at c; cases c
  | some o =>
    rw [e] at c
    cases o with
    | none => cases c
    | some u =>
      obtain ⟨v, h1, h2⟩ := conB_ok d u c
      exact ⟨v, u, PySem.W.mg_of X N e, h1, h2⟩
/-! ### the Hook -/
def obsP (fa : List He.Fa) (fn : List He.DefD) (cs : List (Str × D)) (K : PySem.W.Frag) : He.AlD := ((fa.all fun f => f.ok K) && ((fn.all fun d => d.ok K) && cs.all (conG K)), fn.map fun d => He.fnW K d.at_)
def SaysP (fa : List He.Fa) (fn : List He.DefD) (cs : List (Str × D)) (K : PySem.W.Frag) : Prop := obsP fa fn cs K = He.valD fn
def obsPG (n : Nat) (fa : List He.Fa) (fn : List He.DefD) (cs : List (Str × D)) (g : Addr → Option Obj) : He.AlD := obsP fa fn cs (He.frG g (He.asD g n))
def hookP (n : Nat) (fa : List He.Fa) (fn : List He.DefD) (cs : List (Str × D)) : PySem.W.Hook where
  α := He.AlD
  obs := fun s => obsPG n fa fn cs s.heap.get?
  val := fun _ => He.valD fn
  says := fun _ h => ∃ K : PySem.W.Frag, K.In h ∧ SaysP fa fn cs K
  of := fun _ _ e => ⟨_, He.frG_in, e⟩
  keeps := fun _ _ _ ⟨K, hK, c⟩ k => ⟨K, PySem.W.Frag.In.keeps hK k, c⟩
theorem obsPG_eq {n : Nat} {fa : List He.Fa} {fn : List He.DefD} {cs : List (Str × D)} {g : Addr → Option Obj} {s : Shared} (h : ∀ a, g a = s.heap.get? a) : obsPG n fa fn cs g = (hookP n fa fn cs).obs s := by
  have e : g = s.heap.get? := funext h
  rw [e] <;> rfl
section
variable {fa : List He.Fa} {fn : List He.DefD} {cs : List (Str × D)} {K : PySem.W.Frag}
theorem SaysP.all (c : SaysP fa fn cs K) : (fa.all fun f => f.ok K) = true ∧ (fn.all fun d => d.ok K) = true ∧ cs.all (conG K) = true := by
  obtain ⟨c1, c2⟩ := He.ba (show ((fa.all fun f => f.ok K) && ((fn.all fun d => d.ok K) && cs.all (conG K))) = true from congrArg (fun z : He.AlD => z.1) c)
  obtain ⟨c3, c4⟩ := He.ba c2
  exact ⟨c1, c3, c4⟩
theorem SaysP.fact (c : SaysP fa fn cs K) (i : Nat) {f : He.Fa} (h : fa[i]? = some f := by rfl) : f.ok K = true := List.all_eq_true.mp c.all.1 f (List.mem_of_getElem? h)
theorem SaysP.con (c : SaysP fa fn cs K) (i : Nat) {f : Str × D} (h : cs[i]? = some f := by rfl) : conG K f = true := List.all_eq_true.mp c.all.2.2 f (List.mem_of_getElem? h)
theorem SaysP.def_ (c : SaysP fa fn cs K) (i : Nat) {d : He.DefD} (h : fn[i]? = some d := by rfl) : ∃ fd, FunD K d.name d.qual d.params d.body d.scope (d.dvs K) (d.kws K) (He.fAd K d.at_) fd := by
  have e : fn.map (fun d => He.fnW K d.at_) = fn.map He.DefD.val := congrArg (fun z : He.AlD => z.2) c
  have e2 : (fn.map fun d => He.fnW K d.at_)[i]? = (fn.map He.DefD.val)[i]? := by rw [e]
  rw [List.getElem?_map, List.getElem?_map, h] at e2
  exact He.DefD.funD (Option.some.inj e2) (List.all_eq_true.mp c.all.2.1 d (List.mem_of_getElem? h))
end
end Pu
namespace Pu
open PySem PySem.Spec PyProof.Rows L2
theorem paired_app {α β : Type} {R : α → β → Prop} : ∀ {a c : List α} {b d : List β}, Paired R a b → Paired R c d → Paired R (a ++ c) (b ++ d)
  | _, _, _, _, .nil, h => h
  | _, _, _, _, .cons h t, h2 => .cons h (paired_app t h2)
theorem paired_drop {α β : Type} {R : α → β → Prop} : ∀ (n : Nat) {a : List α} {b : List β}, Paired R a b → Paired R (a.drop n) (b.drop n)
  | 0, _, _, h => h
  | n + 1, _, _, .nil => .nil
  | n + 1, _, _, .cons h t => paired_drop n t
theorem paired_take {α β : Type} {R : α → β → Prop} : ∀ (n : Nat) {a : List α} {b : List β}, Paired R a b → Paired R (a.take n) (b.take n)
  | 0, _, _, _ => .nil
  | n + 1, _, _, .nil => .nil
  | n + 1, _, _, .cons h t => .cons h (paired_take n t)
end Pu
namespace Pu
open PySem PySem.Spec PyProof.Rows L2
section
variable {C : D → Prop} {B : Bool → Prop} {R : Rs → Prop} {i j : Int} {x y : Str} {xs ys ds es : List D} {a b : Bool} {d e : D} {ρ : En}
def ixC {α : Type} : Option α → (α → Prop) → Prop
  | some d, C => C d
  | none, _ => False
theorem ixC_some {α : Type} {d : α} {C : α → Prop} : ixC (some d) C = C d := rfl
theorem ixC_none {α : Type} {C : α → Prop} : ixC none C = False := rfl
theorem ixC_iff {α : Type} {o : Option α} {C : α → Prop} : ixC o C ↔ ∃ d, o = some d ∧ C d := by
  cases o <;> simp [ixC]
theorem q_add_i : fAdd (.int i) (.int j) C = C (.int (i + j)) := rfl
theorem q_add_s : fAdd (.str x) (.str y) C = (x.length + y.length ≤ 1000000 ∧ C (.str (x ++ y))) := rfl
theorem q_add_t : fAdd (.tuple xs) (.tuple ys) C = (xs.length + ys.length ≤ 1000000 ∧ C (.tuple (xs ++ ys))) := rfl
theorem q_add_l : fAdd (.list xs) (.list ys) C = (xs.length + ys.length ≤ 1000000 ∧ C (.list (xs ++ ys))) := rfl
theorem q_sub : fSub (.int i) (.int j) C = C (.int (i - j)) := rfl
theorem q_int {P : Int → Int → Prop} {f : Int → Int → Int} : fInt P f (.int i) (.int j) C = (P i j ∧ C (.int (f i j))) := rfl
theorem q_i0 {f : Int → Int → Int} : fI0 f (.int i) (.int j) C = C (.int (f i j)) := rfl
theorem q_neg : fNeg (.int i) C = C (.int (-i)) := rfl
theorem q_ord {f : Int → Int → Bool} : fOrd f (.int i) (.int j) B = B (f i j) := rfl
theorem q_lt_i : fLt (.int i) (.int j) B = B (decide (i < j)) := rfl
theorem q_lt_s : fLt (.str x) (.str y) B = B (decide (x.cps.toList < y.cps.toList)) := rfl
theorem q_lt_t : fLt (.tuple xs) (.tuple ys) B ↔ ixC (intsOf xs) fun ns => ixC (intsOf ys) fun ms => B (HT.lexLt ns ms) := by
  simp only [ixC_iff]
  constructor
  · rintro ⟨ns, ms, h1, h2, h3⟩
    exact ⟨ns, h1, ms, h2, h3⟩
  · rintro ⟨ns, h1, ms, h2, h3⟩
    exact ⟨ns, ms, h1, h2, h3⟩
theorem q_gt_i : fGtU (.int i) (.int j) B = B (decide (j < i)) := rfl
theorem q_gt_t : fGtU (.tuple xs) (.tuple ys) B ↔ ixC (intsOf xs) fun ns => ixC (intsOf ys) fun ms => B (HT.lexLt ms ns) := by
  simp only [ixC_iff]
  constructor
  · rintro ⟨ns, ms, h1, h2, h3⟩
    exact ⟨ns, h1, ms, h2, h3⟩
  · rintro ⟨ns, h1, ms, h2, h3⟩
    exact ⟨ns, ms, h1, h2, h3⟩
theorem q_ix_t : fIx (.tuple ds) (.int i) C ↔ ixC (atI ds i) C := by rw [ixC_iff]; rfl
theorem q_ix_l : fIx (.list ds) (.int i) C ↔ ixC (atI ds i) C := by rw [ixC_iff]; rfl
theorem q_eq : fEq a d e B = (sh 32 d = true ∧ sh 32 e = true ∧ B (if a then !PyData.eqv d e else PyData.eqv d e)) := rfl
theorem q_is_nn : fIs a .none .none B = B (!a) := rfl
theorem q_is_in : fIs a (.int i) .none B = B a := rfl
theorem q_is_sn : fIs a (.str x) .none B = B a := rfl
theorem q_is_ln : fIs a (.list ds) .none B = B a := rfl
theorem q_is_tn : fIs a (.tuple ds) .none B = B a := rfl
theorem q_is_bn : fIs a (.bool b) .none B = B a := rfl
theorem q_is_bb {c : Bool} : fIs a (.bool b) (.bool c) B = B (if a then !decide (b = c) else decide (b = c)) := rfl
theorem q_in_t : fIn a d (.tuple ds) B = ((flatD d = true ∧ ds.all flatD = true ∨ sh 32 d = true ∧ shAll 31 ds = true) ∧ B (if a then !ds.any (fun y => PyData.eqv y d) else ds.any fun y => PyData.eqv y d)) := by unfold fIn; rfl
theorem q_in_s {x z : Str} : fIn a (.str x) (.str z) B = ∃ c, x = ⟨#[c]⟩ ∧ B (if a then !decide (c ∈ z.cps.toList) else decide (c ∈ z.cps.toList)) := by unfold fIn; rfl
theorem q_in_l : fIn a d (.list ds) B = ((flatD d = true ∧ ds.all flatD = true ∨ sh 32 d = true ∧ shAll 31 ds = true) ∧ B (if a then !ds.any (fun y => PyData.eqv y d) else ds.any fun y => PyData.eqv y d)) := by unfold fIn; rfl
theorem q_bk : fBoolK (.bool a) B = B a := rfl
theorem q_cut_l {l h : Option Int} : fCut (.list ds) l h R = R (.lst (cut ds l h)) := rfl
theorem q_cut_t {l h : Option Int} : fCut (.tuple ds) l h R = R (.dat (.tuple (cut ds l h))) := rfl
theorem q_cut_s {l h : Option Int} : fCut (.str x) l h R = (x.length ≤ 1000000 ∧ R (.dat (.str (cutS x l h)))) := rfl
theorem q_osome {t : UV} {O : Option Int → Prop} : oSome t ρ O = t ρ fun d => ∃ i, d = .int i ∧ O (some i) := rfl
theorem q_len_l : fLen [.list ds] R = R (.dat (.int ds.length)) := rfl
theorem q_len_t : fLen [.tuple ds] R = R (.dat (.int ds.length)) := rfl
theorem q_len_s : fLen [.str x] R = (x.length ≤ 1000000 ∧ R (.dat (.int x.length))) := rfl
theorem q_i1 {g : Int → Int} : fI1 g [.int i] R = R (.dat (.int (g i))) := rfl
theorem q_i2 {g : Int → Int → Int} : fI2 g [.int i, .int j] R = R (.dat (.int (g i j))) := rfl
theorem q_tup_l : fTuple [.list ds] R = R (.dat (.tuple ds)) := rfl
theorem q_tup_t : fTuple [.tuple ds] R = R (.dat (.tuple ds)) := rfl
theorem q_list_l : fList [.list ds] R = R (.lst ds) := rfl
theorem q_list_t : fList [.tuple ds] R = R (.lst ds) := rfl
theorem q_divmod : fDivmod [.int i, .int j] R = (CDiv i j ∧ R (.dat (.tuple [.int (i / j), .int (i % j)]))) := rfl
theorem q_int1_i : fInt1 [.int i] R = R (.dat (.int i)) := rfl
theorem q_int1_b : fInt1 [.bool a] R = R (.dat (.int (if a then 1 else 0))) := rfl
theorem q_sum_l : fSum [.list ds] R ↔ ixC (intsOf ds) fun ns => R (.dat (.int ns.sum)) := by rw [ixC_iff]; rfl
theorem q_sum_t : fSum [.tuple ds] R ↔ ixC (intsOf ds) fun ns => R (.dat (.int ns.sum)) := by rw [ixC_iff]; rfl
theorem q_all {g : List Bool → Bool} : fAllB g [.list ds] R ↔ ixC (boolsOf ds) fun bs => R (.dat (.bool (g bs))) := by rw [ixC_iff]; rfl
theorem q_min_t : fMinL [.tuple ds] R ↔ ixC (intsOf ds) fun ns => 0 < ns.length ∧ ∀ m, m ∈ ns → (∀ y, y ∈ ns → m ≤ y) → R (.dat (.int m)) := by rw [ixC_iff]; rfl
theorem q_min_l : fMinL [.list ds] R ↔ ixC (intsOf ds) fun ns => 0 < ns.length ∧ ∀ m, m ∈ ns → (∀ y, y ∈ ns → m ≤ y) → R (.dat (.int m)) := by rw [ixC_iff]; rfl
theorem q_max_t : fMaxL [.tuple ds] R ↔ ixC (intsOf ds) fun ns => 0 < ns.length ∧ ∀ m, m ∈ ns → (∀ y, y ∈ ns → y ≤ m) → R (.dat (.int m)) := by rw [ixC_iff]; rfl
theorem q_max_l : fMaxL [.list ds] R ↔ ixC (intsOf ds) fun ns => 0 < ns.length ∧ ∀ m, m ∈ ns → (∀ y, y ∈ ns → y ≤ m) → R (.dat (.int m)) := by rw [ixC_iff]; rfl
theorem q_lf_d : (Rs.dat d).lf = lf d := rfl
theorem q_lf_l : (Rs.lst ds).lf = lfAll ds := rfl
theorem q_sl_d : (Rs.dat d).sl = .dat d := rfl
theorem q_sl_l : (Rs.lst ds).sl = .lst ds := rfl
theorem q_cold_d : (Rs.dat d).cold C = C d := rfl
theorem q_cold_l : (Rs.lst ds).cold C = C (.list ds) := rfl
theorem q_seq_l {L : List D → Prop} : fSeq (.list ds) L = L ds := rfl
theorem q_seq0_l {L : List D → Prop} : fSeq0 (.list ds) L = L ds := rfl
theorem q_seq0_t {L : List D → Prop} : fSeq0 (.tuple ds) L = L ds := rfl
theorem q_seq_s {x : Str} {L : List D → Prop} : fSeq (.str x) L = (x.cps.size ≤ 1000000 ∧ L (signsD x)) := rfl
theorem q_seq_t {L : List D → Prop} : fSeq (.tuple ds) L = L ds := rfl
theorem q_zip_l {L : List D → Prop} : fZip (.list xs) (.list ys) L = L (zipD xs ys) := rfl
theorem q_zip_m {L : List D → Prop} : fZip (.list xs) (.tuple ys) L = L (zipD xs ys) := rfl
theorem q_zip_t {L : List D → Prop} : fZip (.tuple xs) (.tuple ys) L = L (zipD xs ys) := rfl
theorem q_tru_b : fTru (.bool a) B = B a := rfl
theorem q_tru_i : fTru (.int i) B = B (i != 0) := rfl
theorem q_tru_l : fTru (.list ds) B = B (!ds.isEmpty) := rfl
theorem q_tru_t : fTru (.tuple ds) B = B (!ds.isEmpty) := rfl
def vSl : Option Sl → (D → Prop) → Prop
  | some (.dat d), C => C d
  | some (.lst ds), C => C (.list ds)
  | _, _ => False
def dSl : Option Sl → (D → Prop) → Prop
  | some (.dat d), C => C d
  | _, _ => False
theorem q_vVar {n : Nat} : vVar n ρ C = vSl ρ[n]? C := by
  unfold vVar
  cases ρ[n]? with
  | none => rfl
  | some s => cases s <;> rfl
theorem q_dVar {n : Nat} : dVar n ρ C = dSl ρ[n]? C := by
  unfold dVar
  cases ρ[n]? with
  | none => rfl
  | some s => cases s <;> rfl
theorem vSl_d : vSl (some (.dat d)) C = C d := rfl
theorem vSl_l : vSl (some (.lst ds)) C = C (.list ds) := rfl
theorem dSl_d : dSl (some (.dat d)) C = C d := rfl
def rSl : Option Sl → (Rs → Prop) → Prop
  | some (.dat d), C => C (.dat d)
  | some (.lst ds), C => C (.lst ds)
  | some (.dic ds), C => C (.dic ds)
  | some (.th x), C => C (.th x)
  | _, _ => False
theorem q_retV {n : Nat} {E : Ed} : sRetV n E ρ = rSl ρ[n]? E.rt := by
  unfold sRetV
  cases ρ[n]? with
  | none => rfl
  | some s => cases s <;> rfl
theorem rSl_d : rSl (some (.dat d)) R = R (.dat d) := rfl
theorem rSl_l : rSl (some (.lst ds)) R = R (.lst ds) := rfl
def aSl : Option Sl → (D → Prop) → Prop
  | some (.dat d), C => C d
  | _, _ => False
theorem q_aug {n : Nat} {E : Ed} {f : D → D → (D → Prop) → Prop} {tv : UV} : sAug n f tv E ρ = aSl ρ[n]? fun x => tv ρ fun y => f x y fun z => E.nx (ρ.set n (.dat z)) := by
  unfold sAug
  cases ρ[n]? with
  | none => rfl
  | some s => cases s <;> rfl
theorem aSl_d : aSl (some (.dat d)) C = C d := rfl
def lSl : Option Sl → (List D → Prop) → Prop
  | some (.lst ds), C => C ds
  | _, _ => False
theorem lSl_l {L : List D → Prop} : lSl (some (.lst ds)) L = L ds := rfl
theorem q_append {n : Nat} {E : Ed} {tv : UV} : sAppend n tv E ρ = lSl ρ[n]? fun ds => tv ρ fun d => ds.length ≤ 1000000 ∧ E.nx (ρ.set n (.lst (ds ++ [d]))) := by
  unfold sAppend
  cases ρ[n]? with
  | none => rfl
  | some s => cases s <;> rfl
theorem q_pop {n : Nat} {E : Ed} {g : UG} : sPop n g E ρ = lSl ρ[n]? fun ds => ∃ d, ds[ds.length - 1]? = some d ∧ g d (ρ.set n (.lst ds.dropLast)) E.nx := by
  unfold sPop
  cases ρ[n]? with
  | none => rfl
  | some s => cases s <;> rfl
theorem q_own_nil : noOwn ρ [] = True := by simp [noOwn]
def ownN : Option Sl → Prop
  | some s => s.isOwn = false
  | none => True
theorem ownN_un : ownN (some .un) = True := by simp [ownN, Sl.isOwn]
theorem ownN_dat : ownN (some (.dat d)) = True := by simp [ownN, Sl.isOwn]
theorem ownN_town : ownN (some .town) = True := by simp [ownN, Sl.isOwn]
theorem ownN_none : ownN none = True := rfl
theorem q_own_cons {v : Nat} {vs : List Nat} : noOwn ρ (v :: vs) ↔ ownN ρ[v]? ∧ noOwn ρ vs := by
  unfold noOwn
  constructor
  · intro h
    refine ⟨?_, fun i hi => h i (List.mem_cons_of_mem _ hi)⟩
    cases q : ρ[v]? with
    | none => trivial
    | some s => exact h v (List.mem_cons_self ..) s q
  · rintro ⟨h1, h2⟩ i hi s hs
    rcases List.mem_cons.mp hi with rfl | hi
    · rw [hs] at h1; exact h1
    · exact h2 i hi s hs
theorem q_isi {T : String} : fIsi T d C ↔ ixC (kitB (tyName d) T) fun b => C (.bool b) := by rw [ixC_iff]; rfl
theorem at0 {α : Type} {x : α} {xs : List α} : atI (x :: xs) 0 = some x := atI_nat (j := 0) rfl
theorem at1 {α : Type} {x y : α} {xs : List α} : atI (x :: y :: xs) 1 = some y := atI_nat (j := 1) rfl
theorem at2 {α : Type} {x y z : α} {xs : List α} : atI (x :: y :: z :: xs) 2 = some z := atI_nat (j := 2) rfl
theorem at3 {α : Type} {x y z w : α} {xs : List α} : atI (x :: y :: z :: w :: xs) 3 = some w := atI_nat (j := 3) rfl
theorem at4 {α : Type} {x y z w v : α} {xs : List α} : atI (x :: y :: z :: w :: v :: xs) 4 = some v := atI_nat (j := 4) rfl
theorem atm1 {α : Type} {xs : List α} : atI xs (-1) = xs.getLast? := by
  rcases List.eq_nil_or_concat xs with rfl | ⟨ys, y, rfl⟩
  · rfl
  · rw [List.concat_eq_append, atI_last]; simp
end
theorem kit_NoneType_bool : kitB "NoneType" "bool" = some false := by decide +kernel
theorem kit_NoneType_int : kitB "NoneType" "int" = some false := by decide +kernel
theorem kit_NoneType_str : kitB "NoneType" "str" = some false := by decide +kernel
theorem kit_NoneType_list : kitB "NoneType" "list" = some false := by decide +kernel
theorem kit_NoneType_tuple : kitB "NoneType" "tuple" = some false := by decide +kernel
theorem kit_bool_bool : kitB "bool" "bool" = some true := by decide +kernel
theorem kit_bool_int : kitB "bool" "int" = some true := by decide +kernel
theorem kit_bool_str : kitB "bool" "str" = some false := by decide +kernel
theorem kit_bool_list : kitB "bool" "list" = some false := by decide +kernel
theorem kit_bool_tuple : kitB "bool" "tuple" = some false := by decide +kernel
theorem kit_int_bool : kitB "int" "bool" = some false := by decide +kernel
theorem kit_int_int : kitB "int" "int" = some true := by decide +kernel
theorem kit_int_str : kitB "int" "str" = some false := by decide +kernel
theorem kit_int_list : kitB "int" "list" = some false := by decide +kernel
theorem kit_int_tuple : kitB "int" "tuple" = some false := by decide +kernel
theorem kit_str_bool : kitB "str" "bool" = some false := by decide +kernel
theorem kit_str_int : kitB "str" "int" = some false := by decide +kernel
theorem kit_str_str : kitB "str" "str" = some true := by decide +kernel
theorem kit_str_list : kitB "str" "list" = some false := by decide +kernel
theorem kit_str_tuple : kitB "str" "tuple" = some false := by decide +kernel
theorem kit_list_bool : kitB "list" "bool" = some false := by decide +kernel
theorem kit_list_int : kitB "list" "int" = some false := by decide +kernel
theorem kit_list_str : kitB "list" "str" = some false := by decide +kernel
theorem kit_list_list : kitB "list" "list" = some true := by decide +kernel
theorem kit_list_tuple : kitB "list" "tuple" = some false := by decide +kernel
theorem kit_tuple_bool : kitB "tuple" "bool" = some false := by decide +kernel
theorem kit_tuple_int : kitB "tuple" "int" = some false := by decide +kernel
theorem kit_tuple_str : kitB "tuple" "str" = some false := by decide +kernel
theorem kit_tuple_list : kitB "tuple" "list" = some false := by decide +kernel
theorem kit_tuple_tuple : kitB "tuple" "tuple" = some true := by decide +kernel
theorem cut_from {α : Type} (xs : List α) (k : Nat) : cut xs (some (k : Int)) none = xs.drop k := by
  unfold cut
  rw [HT.sIx_nat, HT.sIx_none]
  by_cases h : k ≤ xs.length
  · rw [Nat.min_eq_left h, List.take_of_length_le (by rw [List.length_drop]; omega)]
  · rw [Nat.min_eq_right (by omega), List.drop_of_length_le (Nat.le_refl _), List.drop_of_length_le (by omega)]; simp
theorem cut_to {α : Type} (xs : List α) (k : Nat) : cut xs none (some (k : Int)) = xs.take k := by
  unfold cut
  rw [HT.sIx_nat, HT.sIx_none, List.drop_zero, Nat.sub_zero]
  by_cases h : k ≤ xs.length
  · rw [Nat.min_eq_left h]
  · rw [Nat.min_eq_right (by omega), List.take_of_length_le (Nat.le_refl _), List.take_of_length_le (by omega)]
theorem cut_f1 {α : Type} {xs : List α} : cut xs (some 1) none = xs.drop 1 := cut_from xs 1
theorem cut_f2 {α : Type} {xs : List α} : cut xs (some 2) none = xs.drop 2 := cut_from xs 2
theorem cut_f3 {α : Type} {xs : List α} : cut xs (some 3) none = xs.drop 3 := cut_from xs 3
theorem cut_t1 {α : Type} {xs : List α} : cut xs none (some 1) = xs.take 1 := cut_to xs 1
theorem cut_t2 {α : Type} {xs : List α} : cut xs none (some 2) = xs.take 2 := cut_to xs 2
theorem cut_t3 {α : Type} {xs : List α} : cut xs none (some 3) = xs.take 3 := cut_to xs 3
theorem cut_f4 {α : Type} {xs : List α} : cut xs (some 4) none = xs.drop 4 := cut_from xs 4
theorem cut_t4 {α : Type} {xs : List α} : cut xs none (some 4) = xs.take 4 := cut_to xs 4
theorem cut_f5 {α : Type} {xs : List α} : cut xs (some 5) none = xs.drop 5 := cut_from xs 5
theorem cut_t5 {α : Type} {xs : List α} : cut xs none (some 5) = xs.take 5 := cut_to xs 5
theorem cut_f6 {α : Type} {xs : List α} : cut xs (some 6) none = xs.drop 6 := cut_from xs 6
theorem cut_t6 {α : Type} {xs : List α} : cut xs none (some 6) = xs.take 6 := cut_to xs 6
theorem cut_f7 {α : Type} {xs : List α} : cut xs (some 7) none = xs.drop 7 := cut_from xs 7
theorem cut_t7 {α : Type} {xs : List α} : cut xs none (some 7) = xs.take 7 := cut_to xs 7
theorem cut_f8 {α : Type} {xs : List α} : cut xs (some 8) none = xs.drop 8 := cut_from xs 8
theorem cut_t8 {α : Type} {xs : List α} : cut xs none (some 8) = xs.take 8 := cut_to xs 8
theorem lf_app : ∀ (xs ys : List D), lfAll (xs ++ ys) = (lfAll xs && lfAll ys)
  | [], ys => by simp [lfAll]
  | x :: xs, ys => by simp [lfAll, lf_app xs ys, Bool.and_assoc]
mutual
theorem eqv_refl : ∀ (n : Nat) (d : D), sh n d = true → PyData.eqv d d = true
  | _, .none, _ => by simp [PyData.eqv]
  | _, .bool b, _ => by simp [PyData.eqv]
  | _, .int i, _ => by simp [PyData.eqv]
  | _, .str x, _ => by simp [PyData.eqv]
  | n, .list ds, h => by
    cases n with
    | zero => simp [sh] at h
    | succ n =>
      simp only [sh] at h
      simp only [PyData.eqv]
      exact eqvAll_refl n ds h
  | n, .tuple ds, h => by
    cases n with
    | zero => simp [sh] at h
    | succ n =>
      simp only [sh] at h
      simp only [PyData.eqv]
      exact eqvAll_refl n ds h
  | _, .dict _, h => by simp [sh] at h
theorem eqvAll_refl : ∀ (n : Nat) (ds : List D), shAll n ds = true → PyData.eqvAll ds ds = true
  | _, [], _ => by simp [PyData.eqvAll]
  | n, d :: ds, h => by
    simp only [shAll, Bool.and_eq_true] at h
    simp only [PyData.eqvAll, eqv_refl n d h.1, eqvAll_refl n ds h.2, Bool.and_self]
end
/-- the same on both sides -/
theorem eq_same {a : Bool} {d e : D} {B : Bool → Prop} (h : d = e) (s : sh 32 d = true) (hb : B (!a)) : fEq a d e B := by
  subst h
  refine ⟨s, s, ?_⟩
  rw [eqv_refl 32 d s]
  cases a <;> exact hb
theorem ne_ok {d e : D} {P Q : Prop} (h : d = e) (s : sh 32 d = true) (hp : P) : fEq true d e fun z => (z = true → Q) ∧ (z = false → P) := eq_same h s ⟨fun z => (by cases z), fun _ => hp⟩
theorem q_eqf_i {i j : Int} {B : Bool → Prop} : fEq false (.int i) (.int j) B = B (decide (i = j)) := by
  simp [fEq, sh, PyData.eqv]
  have : (i == j) = decide (i = j) := by by_cases h : i = j <;> simp [h]
  rw [this]
theorem q_eqt_i {i j : Int} {B : Bool → Prop} : fEq true (.int i) (.int j) B = B (!decide (i = j)) := by
  simp [fEq, sh, PyData.eqv]
  have : (i == j) = decide (i = j) := by by_cases h : i = j <;> simp [h]
  simp [bne, this]
/-! ### loops over lists, no draws -/
theorem lcC_det {g : UG} {tt : UT} {te : UV} {C : List D → Prop} {ρ : En} (keep : D → Bool) (val : D → D) : ∀ (ds acc : List D),
    (∀ d ∈ ds, ∀ (P1 : D → Prop) (P2 : Prop), (keep d = true → P1 (val d)) → (keep d = false → P2) → g d ρ fun ρ2 => tt ρ2 fun z => (z = true → te ρ2 P1) ∧ (z = false → P2)) →
    C (acc ++ (ds.filter keep).map val) → lcC g tt te C ρ ds acc
  | [], acc, _, hc => by simpa [lcC] using hc
  | d :: ds, acc, h, hc => by
    unfold lcC
    refine h d (List.mem_cons_self ..) _ _ (fun k => ?_) (fun k => ?_)
    · refine lcC_det keep val ds _ (fun d hd => h d (List.mem_cons_of_mem _ hd)) ?_
      rw [List.filter_cons, if_pos k] at hc
      simpa using hc
    · refine lcC_det keep val ds _ (fun d hd => h d (List.mem_cons_of_mem _ hd)) ?_
      rw [List.filter_cons, if_neg (by simp [k])] at hc
      exact hc
/-- over things that are made of α -/
theorem lcC_map {α : Type} {g : UG} {tt : UT} {te : UV} {C : List D → Prop} {ρ : En} (mk : α → D) (keep : α → Bool) (val : α → D) : ∀ (as : List α) (acc : List D),
    (∀ a ∈ as, ∀ (P1 : D → Prop) (P2 : Prop), (keep a = true → P1 (val a)) → (keep a = false → P2) → g (mk a) ρ fun ρ2 => tt ρ2 fun z => (z = true → te ρ2 P1) ∧ (z = false → P2)) →
    C (acc ++ (as.filter keep).map val) → lcC g tt te C ρ (as.map mk) acc
  | [], acc, _, hc => by simpa [lcC] using hc
  | d :: ds, acc, h, hc => by
    rw [List.map_cons]
    unfold lcC
    refine h d (List.mem_cons_self ..) _ _ (fun k => ?_) (fun k => ?_)
    · refine lcC_map mk keep val ds _ (fun d hd => h d (List.mem_cons_of_mem _ hd)) ?_
      rw [List.filter_cons, if_pos k] at hc
      simpa using hc
    · refine lcC_map mk keep val ds _ (fun d hd => h d (List.mem_cons_of_mem _ hd)) ?_
      rw [List.filter_cons, if_neg (by simp [k])] at hc
      exact hc
/-- no tests -/
theorem lcC_yes {α : Type} {g : UG} {te : UV} {C : List D → Prop} {ρ : En} (mk : α → D) (val : α → D) : ∀ (as : List α) (acc : List D),
    (∀ a ∈ as, ∀ P1 : D → Prop, P1 (val a) → g (mk a) ρ fun ρ2 => te ρ2 P1) → C (acc ++ as.map val) → lcC g bYes te C ρ (as.map mk) acc
  | [], acc, _, hc => by simpa [lcC] using hc
  | d :: ds, acc, h, hc => by
    rw [List.map_cons]
    unfold lcC
    simp only [bYes, forall_const, reduceCtorEq, false_implies, and_true, true_implies]
    refine h d (List.mem_cons_self ..) _ ?_
    refine lcC_yes mk val ds _ (fun d hd => h d (List.mem_cons_of_mem _ hd)) ?_
    simpa using hc
/-- a for by an invariant that knows what is left -/
theorem forC_inv {g : UG} {tb : US} {E : Ed} (I : List D → En → Prop)
    (h : ∀ d rest ρ, I (d :: rest) ρ → ∀ K : En → Prop, (∀ ρ', I rest ρ' → K ρ') → g d ρ fun ρ' => tb { E with nx := K, ct := K, bk := E.nx } ρ') (hn : ∀ ρ, I [] ρ → E.nx ρ) : ∀ (ds : List D) (ρ : En), I ds ρ → forC g tb E ds ρ
  | [], ρ, i => hn ρ i
  | d :: ds, ρ, i => by
    unfold forC
    exact h d ds ρ i _ fun ρ' i' => forC_inv I h hn ds ρ' i'
theorem mem_rngD {lo : Int} {n : Nat} {d : D} (h : d ∈ rngD lo n) : ∃ i : Nat, i < n ∧ d = .int (lo + (i : Int)) := by
  unfold rngD at h
  obtain ⟨i, hi, rfl⟩ := List.mem_map.mp h
  exact ⟨i, List.mem_range.mp hi, rfl⟩
/-- a while that ends, by a measure -/
theorem whC_up {tt : UT} {tb : US} {E : Ed} {ρ : En} (n : Nat) (h : whC tt tb E n ρ) : sWhile tt tb E ρ := ⟨n, h⟩
def enumF : Nat → List D → List D
  | _, [] => []
  | i, d :: ds => .tuple [.int (i : Int), d] :: enumF (i + 1) ds
theorem enumD_eq (ds : List D) : enumD ds = enumF 0 ds := by
  unfold enumD
  have h : ∀ (ds : List D) (k : Nat), (List.range' k ds.length).zipWith (fun (i : Nat) d => (.tuple [.int (i : Int), d] : D)) ds = enumF k ds := by
    intro ds
    induction ds with
    | nil => intro k; rfl
    | cons d ds ih =>
      intro k
      rw [List.length_cons, List.range'_succ, List.zipWith_cons_cons, ih (k + 1)]; rfl
  rw [List.range_eq_range']
  exact h ds 0
theorem zipD_cons {x y : D} {xs ys : List D} : zipD (x :: xs) (y :: ys) = .tuple [x, y] :: zipD xs ys := rfl
theorem zipD_nil {xs : List D} : zipD xs [] = [] := by simp [zipD]
theorem zipD_map {α : Type} {f : α → D} : ∀ (xs ys : List α), zipD (xs.map f) (ys.map f) = (xs.zip ys).map fun p => .tuple [f p.1, f p.2]
  | [], _ => rfl
  | _ :: _, [] => rfl
  | x :: xs, y :: ys => by
    have := zipD_map (f := f) xs ys
    simp only [List.map_cons, zipD_cons, this, List.zip_cons_cons]
/-- of numbers -/
theorem intsOf_map (ns : List Int) : intsOf (ns.map PyData.int) = some ns := by
  induction ns with
  | nil => rfl
  | cons n ns ih => simp [intsOf, ih]
theorem bools_map {α : Type} (f : α → Bool) (as : List α) : boolsOf (as.map fun a => .bool (f a)) = some (as.map f) := by
  induction as with
  | nil => rfl
  | cons n ns ih => simp [boolsOf, ih]
theorem ints_map {α : Type} (f : α → Int) (as : List α) : intsOf (as.map fun a => .int (f a)) = some (as.map f) := by
  induction as with
  | nil => rfl
  | cons n ns ih => simp [intsOf, ih]
theorem boolsOf_map (bs : List Bool) : boolsOf (bs.map PyData.bool) = some bs := by
  induction bs with
  | nil => rfl
  | cons n ns ih => simp [boolsOf, ih]
end Pu
namespace Pu
open PySem PySem.Spec PyProof.Rows L2
theorem units65 {k : Nat} {A : Around} (r : Room k A) : A.units + 65 < cLine := by have := r.un; omega
theorem se_Constant {c : Const} {j : Nat} {p : Pos} {es : List Expr} {env : Env} : starEach (.Constant c j p :: es) env = (false, eval (.Constant c j p) env) :: starEach es env := rfl
theorem se_Tuple {xs : List Expr} {j : Nat} {p : Pos} {es : List Expr} {env : Env} : starEach (.Tuple xs j p :: es) env = (false, eval (.Tuple xs j p) env) :: starEach es env := rfl
theorem se_List {xs : List Expr} {p : Pos} {es : List Expr} {env : Env} : starEach (.List xs p :: es) env = (false, eval (.List xs p) env) :: starEach es env := rfl
theorem se_UnaryOp {o : UnaryOp} {e : Expr} {p : Pos} {es : List Expr} {env : Env} : starEach (.UnaryOp o e p :: es) env = (false, eval (.UnaryOp o e p) env) :: starEach es env := rfl
theorem se_BinOp {o : Operator} {e d : Expr} {p : Pos} {es : List Expr} {env : Env} : starEach (.BinOp e o d p :: es) env = (false, eval (.BinOp e o d p) env) :: starEach es env := rfl
theorem se_Name {x : Str} {p : Pos} {es : List Expr} {env : Env} : starEach (.Name x p :: es) env = (false, eval (.Name x p) env) :: starEach es env := rfl
theorem sw_List {xs : List Expr} {p : Pos} {t : Option Expr} {l : Nat} {env : Env} : swapsWith (.List xs p) t l env = pure false := rfl
theorem sw_BinOp {o : Operator} {e d : Expr} {p : Pos} {t : Option Expr} {l : Nat} {env : Env} : swapsWith (.BinOp e o d p) t l env = pure false := rfl
/-! a list unpacked -/
def gLstl (n : Nat) (gs : UGs) : UG := fun d ρ C => match d with
  | .list ds => ds.length = n ∧ gs ds ρ C
  | _ => False
theorem jg_lst {cp : List Str} {G : Gx} {N : List Str} {sc : Scope} {k : Nat} {τ : Tn} {X : Cx} {es : List Expr} {gs : UGs} {pos : Pos} {kk n : Nat} (S : Ok cp G N sc k X) (h : JGs τ X es gs) (hn : (assignEach es X.env).length = n := by rfl) (hst : (assignEach es X.env).findIdx? (·.1) = none := by rfl) : JG τ X (.Tuple es kk pos) (gLstl n gs) := fun d ρ C c H0 γ σ H v r hd Q q => by
  unfold gLstl at c
  split at c
  · rename_i ds
    cases hd with
    | lst hs ha =>
      exact wpG_of (pg_lst S.calm pgs_w hn hst) ⟨_, _, rfl, sqL_same res_le hs, (dpAll_len ha).trans c.1, h ds ρ C c.2 H0 γ σ H _ r ha Q q⟩
  · exact c.elim
/-! tuple * int -/
def fRepT : D → D → (D → Prop) → Prop
  | .tuple xs, .int k, C => xs ≠ [] ∧ 2 ≤ k ∧ k ≤ 1000 ∧ xs.length ≤ 1000 ∧ C (.tuple (List.replicate k.toNat xs).flatten)
  | _, _, _ => False
theorem dpAll_rep {K : PySem.W.Frag} {H : Hp} {vs : List V} {ds : List D} (h : DpAll K H vs ds) : ∀ m : Nat, DpAll K H (List.replicate m vs).flatten (List.replicate m ds).flatten
  | 0 => .nil
  | m + 1 => by
    rw [List.replicate_succ, List.replicate_succ, List.flatten_cons, List.flatten_cons]
    exact dpAll_append h (dpAll_rep h m)
/-- laid plainly -/
def rRepP (K : PySem.W.Frag) : R2 := fun x y H Q => ∃ l k xs, x = .ref l ∧ y = .int k ∧ SqT K H l xs ∧ xs ≠ [] ∧ 2 ≤ k ∧ k ≤ 1000 ∧ xs.length ≤ 1000 ∧ ∀ p o, o.dict = none → H p = none → Q (.ref p) (upd H p (.frz o (.tup (List.replicate k.toNat xs).flatten)))
theorem op_repP {X : Cx} : OpR X (binaryOp .Mult) (rRepP X.K) := by
  intro pins s σ H x y v u Q I rx ry h
  obtain ⟨l, k, xs, rfl, rfl, hT, hne, h1, h2, hz, q⟩ := h
  cases rx
  obtain ⟨t, rfl⟩ := ry
  obtain ⟨us, r, ⟨⟨cls, dd, data, sl⟩, ho, hc, n, hd⟩, hs⟩ := I.tuple hT
  simp only at hc hd
  subst hc hd
  have hle : us.length = xs.length := r.length.symm
  have he : us.toArray.isEmpty = false := by
    cases us with
    | nil => exact absurd (List.eq_nil_of_length_eq_zero hle.symm) hne
    | cons a b => rfl
  have sz : us.toArray.size = xs.length := by rw [List.size_toArray, hle]
  have hm : ((us.toArray.size : Nat) : Int) * k ≤ 1000000 := by
    have a1 : ((xs.length : Nat) : Int) * k ≤ 1000 * k := Int.mul_le_mul_of_nonneg_right (by omega) (by omega)
    rw [sz]
    omega
  have fl : ∀ {α : Type} (zs : List α), zs.length = xs.length → (List.replicate k.toNat zs).flatten.length ≤ sizeLine := fun zs e => by
    have a1 : k.toNat * xs.length ≤ 1000 * 1000 := Nat.mul_le_mul (by omega) hz
    rw [PyProof.Rows.lm_len_rep_flat, e, sizeLine_eq]
    omega
  have b0 : (decide (k < -(2 ^ 63)) || decide (k ≥ 2 ^ 63)) = false := by simp; omega
  have b1 : (us.toArray.isEmpty || k == 1) = false := by rw [he, Bool.false_or]; exact beq_eq_false_iff_ne.mpr (by omega)
  have b2 : (decide (k ≤ 0) || us.toArray.isEmpty) = false := by rw [he, Bool.or_false]; exact decide_eq_false (by omega)
  have b4 : Builtin.Tuple.tupleTooMany (((us.toArray.size : Nat) : Int) * k) = false := by unfold Builtin.Tuple.tupleTooMany; rw [sizeLine_eq]; exact decide_eq_false (by omega)
  have ex : (List.foldl (fun x1 x2 => x1 ++ x2) #[] (List.replicate k.toNat us.toArray)) = (List.replicate k.toNat us).flatten.toArray := size_rep us _
  refine wpAny_binaryOp_repeat_ref (T := "tuple") (U := "int") (by decide) ⟨_, ho, rfl⟩ (fun s' => typeIs_int s' k t) noFill_tuple_mul F.fills_int_mul F.slot_int_rmul repeat_tuple F.slot_int_index.lookup
    (call_meets F.slot_int_rmul (typeIs_int s k t) F.entry_int_rmul (F.args_int_rmul_2 _ _) (int_rmul_tuple k t l us.toArray n dd sl) ⟨ho, rfl, ⟨_, ho, rfl⟩, ?_⟩)
  refine call_meets F.slot_tuple_mul ⟨_, ho, rfl⟩ F.entry_tuple_mul (F.args_tuple_mul_2 _ _) (tuple_mulW l us.toArray n dd sl k t b0 b1 b2 (by omega) b4 (by rw [ex, List.size_toArray]; exact fl us hle)) ⟨ho, ?_⟩
  rw [ex]
  exact ⟨.ref s.heap.objs.size, _, inv_plT (t' := s.toks) I (fl xs rfl) (r.rep k.toNat), rfl, q _ _ rfl (I.hok.fresh (Nat.le_refl _))⟩
theorem fRepT_ok {X : Cx} : Op2 X (rRepP X.K) fRepT := fun τ H0 H γ σ ρ v1 v2 d1 d2 C r b1 b2 h Q q => by
  cases d1 <;> cases d2 <;> first | exact h.elim | skip
  obtain ⟨h1, h2, h3, h4, h5⟩ := h
  obtain ⟨a, vs, rfl, hs, ha⟩ := b1
  cases b2
  refine ⟨a, _, vs, rfl, rfl, sqT_same res_le hs, fun z => ?_, h2, h3, by rw [dpAll_len ha]; exact h4, fun p o ho hp => ?_⟩
  · subst z
    cases ha
    exact h1 rfl
  · exact q _ _ _ h5 (.new hp) (.tup (.inl (.inr ⟨o, res_put (r.notOwn hp) upd_same ho⟩)) (dpAll_after (.new hp) (dpAll_rep ha _)))
theorem jd_rep {τ : Tn} {X : Cx} {a b : Expr} {t u : UV} {pos : Pos} (ha : JV τ X a t) (hb : JV τ X b u) : JD τ X (.BinOp a .Mult b pos) (d2 fRepT t u) := jd_op op_repP fRepT_ok ha hb
/-! sorted, of ints -/
def fSorted : List D → (Rs → Prop) → Prop
  | [.list ds], C => ∃ ns, intsOf ds = some ns ∧ ns.length < 64 ∧ ∀ ns' : List Int, ns'.Perm ns → ns'.Pairwise (· ≤ ·) → C (.lst (ns'.map PyData.int))
  | _, _ => False
theorem fSorted_ok {X : Cx} : Cb X (rSorted X.K) fSorted := fun τ H0 H γ σ ρ vs ds C r b f Q q => by
  unfold fSorted at f
  split at f
  · obtain ⟨v, rfl, p, ws, rfl, hs, ha⟩ := paired1 b
    obtain ⟨ns, h1, h2, h3⟩ := f
    have e := intsOf_dp h1 ha
    subst e
    exact ⟨p, ns, rfl, sqL_same res_le hs, h2, fun ns' l p1 p2 hl => q _ _ _ (h3 ns' p1 p2) (.new hl) (new_lst r hl (dp_ints ns'))⟩
  · exact f.elim
/-! constants of any depth -/
mutual
def litD : Nat → Expr → Option D
  | _, .Constant (.int i) _ _ => some (.int i)
  | _, .Constant (.str x) _ _ => some (.str x)
  | _, .Constant (.bool b) _ _ => some (.bool b)
  | _, .Constant .none _ _ => some .none
  | _, .UnaryOp .USub (.Constant (.int i) _ _) _ => some (.int (-i))
  | n + 1, .Tuple es _ _ => if es.length ≤ 1000 then (litAll n es).map PyData.tuple else none
  | _, _ => none
def litAll : Nat → List Expr → Option (List D)
  | _, [] => some []
  | 0, _ :: _ => none
  | n + 1, e :: es => (litD n e).bind fun d => (litAll n es).map fun ds => d :: ds
end
theorem lit_star {n : Nat} {e : Expr} {d : D} (h : litD n e = some d) (es : List Expr) (env : Env) : starEach (e :: es) env = (false, eval e env) :: starEach es env := by
  unfold litD at h
  split at h
  · rfl
  · rfl
  · rfl
  · rfl
  · rfl
  · rfl
  · cases h
theorem lit_ok {τ : Tn} {X : Cx} : ∀ (n : Nat), (∀ {e : Expr} {d : D}, litD n e = some d → JD τ X e (dC d)) ∧ ∀ {es : List Expr} {ds : List D}, litAll n es = some ds → JDs τ X es (fun _ C => C ds) := by
  intro n
  induction n with
  | zero =>
    refine ⟨fun {e d} h => ?_, fun {es ds} h => ?_⟩
    · unfold litD at h
      split at h
      · cases h; exact jd_int
      · cases h; exact jd_str
      · cases h; exact jd_bl
      · cases h; exact jd_non
      · cases h
        exact jd_neg (jv_d jd_int)
      · rename_i hn
        cases hn
      · cases h
    · cases es with
      | nil => cases h; exact jds_nil
      | cons e es => cases h
  | succ n ih =>
    refine ⟨fun {e d} h => ?_, fun {es ds} h => ?_⟩
    · unfold litD at h
      split at h
      · cases h; exact jd_int
      · cases h; exact jd_str
      · cases h; exact jd_bl
      · cases h; exact jd_non
      · cases h
        exact jd_neg (jv_d jd_int)
      · rename_i hn
        cases hn
        split at h
        · rename_i hl
          obtain ⟨ds, h1, rfl⟩ := Option.map_eq_some_iff.mp h
          exact jd_tup (ih.2 h1) hl
        · cases h
      · cases h
    · cases es with
      | nil => cases h; exact jds_nil
      | cons e es =>
        unfold litAll at h
        obtain ⟨d, h1, h2⟩ := Option.bind_eq_some_iff.mp h
        obtain ⟨ds', h3, rfl⟩ := Option.map_eq_some_iff.mp h2
        exact jds_cons (ih.1 h1) (ih.2 h3) (lit_star h1 es _)
theorem jd_lit {τ : Tn} {X : Cx} (n : Nat) {e : Expr} {d : D} (h : litD n e = some d) : JD τ X e (dC d) := (lit_ok n).1 h
theorem jds_lit {τ : Tn} {X : Cx} (n : Nat) {es : List Expr} {ds : List D} (h : litAll n es = some ds) : JDs τ X es (fun _ C => C ds) := (lit_ok n).2 h
theorem js_asgC {cp : List Str} {G : Gx} {N : List Str} {sc : Scope} {k : Nat} {τ : Tn} {X : Cx} {e tg : Expr} {tv : UV} {g : UG} {pos : Pos} (S : Ok cp G N sc k X) (he : JD τ X e tv) (hg : JG τ X tg g) (hw : swappedStores [tg] e { (default : Env) with scope := sc } = pure none := by rfl) (hs : swapsWithSole [tg] e pos.line X.env = pure false := by rfl)
    (h1 : (assignEach [tg] X.env).map (·.2) = [assign tg X.env] := by rfl) : JS τ X (.Assign [tg] e pos) (sAsg tv g) := js_asg he hg hs ((swapped_env S.es).trans hw) h1
section
variable {t u : US} {E : Ed} {ρ : En} {te ue we : UE} {tt tu : UT} {tv tw ts' : UV} {ta tb : UA} {tl : UL} {g : UG} {gs : UGs} {C : D → Prop} {B : Bool → Prop} {R : Rs → Prop} {L : List D → Prop} {A : List Ar → Prop} {K : En → Prop} {O : Option Int → Prop} {to to' : UO} {S : Sf} {d e : D} {ds : List D} {i j l n : Nat}
theorem c_sfOf {N : List Str} {as : List Ar} : sfOf N n t as R = (as.length = n ∧ t { nx := fun _ => R (.dat .none), rt := fun r => r.lf = true ∧ R r } (en0 N as)) := propext Iff.rfl
theorem c_sNext : sNext E ρ = E.nx ρ := propext Iff.rfl
theorem c_sSeq : sSeq t u E ρ = t { E with nx := u E } ρ := propext Iff.rfl
theorem c_sNever : sNever E ρ = False := propext Iff.rfl
theorem c_sBreak : sBreak E ρ = E.bk ρ := propext Iff.rfl
theorem c_sCont : sCont E ρ = E.ct ρ := propext Iff.rfl
theorem c_sDrop : sDrop te E ρ = te ρ fun _ => E.nx ρ := propext Iff.rfl
theorem c_sRet : sRet te E ρ = te ρ E.rt := propext Iff.rfl
theorem c_sRetN : sRetN E ρ = E.rt (.dat .none) := propext Iff.rfl
theorem c_sIf : sIf tt t u E ρ = tt ρ fun z => (z = true → t E ρ) ∧ (z = false → u E ρ) := propext Iff.rfl
theorem c_sSet : sSet i te E ρ = te ρ fun r => E.nx (ρ.set i r.sl) := propext Iff.rfl
theorem c_gNam : gNam i d ρ K = K (ρ.set i (.dat d)) := propext Iff.rfl
theorem c_gsNil : gsNil [] ρ K = K ρ := propext Iff.rfl
theorem c_gsCons : gsCons g gs (d :: ds) ρ K = g d ρ fun ρ' => gs ds ρ' K := propext Iff.rfl
theorem c_gTupl : gTupl n gs (.tuple ds) ρ K = (ds.length = n ∧ gs ds ρ K) := propext Iff.rfl
theorem c_sAsg : sAsg tv g E ρ = tv ρ fun d => g d ρ E.nx := propext Iff.rfl
theorem c_sPar2 : sPar2 i j te ue E ρ = te ρ fun r1 => ue ρ fun r2 => r1.lf = true ∧ r2.lf = true ∧ E.nx ((ρ.set i r1.sl).set j r2.sl) := propext Iff.rfl
theorem c_sPar3 : sPar3 i j l te ue we E ρ = te ρ fun r1 => ue ρ fun r2 => we ρ fun r3 => r1.lf = true ∧ r2.lf = true ∧ r3.lf = true ∧ E.nx (((ρ.set i r1.sl).set j r2.sl).set l r3.sl) := propext Iff.rfl
def xRs : Rs → (List D → Prop) → Prop
  | .lst es, L => L es
  | _, _ => False
theorem xRs_l : xRs (.lst ds) L = L ds := propext Iff.rfl
theorem c_sExtend : sExtend i te E ρ = lSl ρ[i]? fun ds => te ρ fun r => xRs r fun es => ds.length + es.length ≤ 1000000 ∧ E.nx (ρ.set i (.lst (ds ++ es))) := by
  unfold sExtend
  cases ρ[i]? with
  | none => rfl
  | some s => cases s with
    | lst ds =>
      show (te ρ fun r => _) = _
      unfold lSl
      congr 1
      funext r
      cases r <;> rfl
    | _ => rfl
theorem c_sFor : sFor tl g t E ρ = tl ρ fun ds => forC g t E ds ρ := propext Iff.rfl
def frSl : Option Sl → Nat → En → En
  | some (.lst ds), i, ρ => ρ.set i (.dat (.list ds))
  | _, _, ρ => ρ
theorem frSl_l : frSl (some (.lst ds)) i ρ = ρ.set i (.dat (.list ds)) := rfl
theorem frSl_d : frSl (some (.dat d)) i ρ = ρ := rfl
theorem c_sFrz : sFrz i t E ρ = t E (frSl ρ[i]? i ρ) := by
  unfold sFrz
  cases ρ[i]? with
  | none => rfl
  | some s => cases s <;> rfl
theorem c_eAdd : eAdd tv tw ρ R = tv ρ fun x => tw ρ fun y => fAddE x y R := propext Iff.rfl
theorem q_adde_i {i j : Int} : fAddE (.int i) (.int j) R = R (.dat (.int (i + j))) := propext Iff.rfl
theorem q_adde_s {x y : Str} : fAddE (.str x) (.str y) R = (x.length + y.length ≤ 1000000 ∧ R (.dat (.str (x ++ y)))) := propext Iff.rfl
theorem q_adde_t {xs ys : List D} : fAddE (.tuple xs) (.tuple ys) R = (xs.length + ys.length ≤ 1000000 ∧ R (.dat (.tuple (xs ++ ys)))) := propext Iff.rfl
theorem q_adde_l {xs ys : List D} : fAddE (.list xs) (.list ys) R = (xs.length + ys.length ≤ 1000000 ∧ R (.lst (xs ++ ys))) := propext Iff.rfl
theorem c_gLstl : gLstl n gs (.list ds) ρ K = (ds.length = n ∧ gs ds ρ K) := propext Iff.rfl
theorem q_sorted : fSorted [.list ds] R ↔ ixC (intsOf ds) fun ns => ns.length < 64 ∧ ∀ ns' : List Int, ns'.Perm ns → ns'.Pairwise (· ≤ ·) → R (.lst (ns'.map PyData.int)) := by rw [ixC_iff]; rfl
theorem q_rep {xs : List D} {k : Int} : fRepT (.tuple xs) (.int k) C = (xs ≠ [] ∧ 2 ≤ k ∧ k ≤ 1000 ∧ xs.length ≤ 1000 ∧ C (.tuple (List.replicate k.toNat xs).flatten)) := propext Iff.rfl
theorem c_iSeq : iSeq tv ρ L = tv ρ fun d => fSeq d L := propext Iff.rfl
theorem c_iRange1 : iRange1 tv ρ L = tv ρ fun d => ∃ n, d = .int n ∧ n ≤ 1000000 ∧ -1000000000 ≤ n ∧ L (rngD 0 n.toNat) := propext Iff.rfl
theorem c_iRange2 : iRange2 tv tw ρ L = tv ρ fun d => tw ρ fun d2 => ∃ m n, d = .int m ∧ d2 = .int n ∧ n - m ≤ 1000000 ∧ -1000000000000 ≤ m ∧ m ≤ 1000000000000 ∧ -1000000000000 ≤ n ∧ n ≤ 1000000000000 ∧ L (rngD m (n - m).toNat) := propext Iff.rfl
theorem c_iEnumS : iEnumS tv ρ L = tv ρ fun d => fSeq0 d fun ds => L (enumD ds) := propext Iff.rfl
theorem c_iZip2 : iZip2 tv tw ρ L = tv ρ fun x => tw ρ fun y => fZip x y L := propext Iff.rfl
theorem c_eLc {vs : List Nat} : eLc tl g tt tv vs ρ R = (noOwn ρ vs ∧ tl ρ fun ds => lcC g tt tv (fun acc => R (.lst acc)) (wipeS ρ vs) ds []) := propext Iff.rfl
theorem c_eD : eD tv ρ R = tv ρ fun d => R (.dat d) := propext Iff.rfl
theorem c_dE : dE te ρ C = te ρ fun r => r.cold C := propext Iff.rfl
theorem c_lCons : lCons tv tl ρ L = tv ρ fun d => tl ρ fun ds => L (d :: ds) := propext Iff.rfl
theorem c_dC : dC d ρ C = C d := propext Iff.rfl
theorem c_dTup : dTup tl ρ C = tl ρ fun ds => C (.tuple ds) := propext Iff.rfl
theorem c_eLst : eLst tl ρ R = tl ρ fun ds => R (.lst ds) := propext Iff.rfl
theorem c_d2 {f : D → D → (D → Prop) → Prop} : d2 f tv tw ρ C = tv ρ fun x => tw ρ fun y => f x y C := propext Iff.rfl
theorem c_d1 {f : D → (D → Prop) → Prop} : d1 f tv ρ C = tv ρ fun x => f x C := propext Iff.rfl
theorem c_dB : dB tt ρ C = tt ρ fun z => C (.bool z) := propext Iff.rfl
theorem c_b2 {f : D → D → (Bool → Prop) → Prop} : b2 f tv tw ρ B = tv ρ fun x => tw ρ fun y => f x y B := propext Iff.rfl
theorem c_b3 {f h : D → D → (Bool → Prop) → Prop} : b3 f h tv tw ts' ρ B = tv ρ fun x => tw ρ fun y => f x y fun z => (z = true → ts' ρ fun w => h y w B) ∧ (z = false → B false) := propext Iff.rfl
theorem c_bTru : bTru tv ρ B = tv ρ fun d => fTru d B := propext Iff.rfl
theorem c_bAnd : bAnd tt tu ρ B = tt ρ fun z => (z = true → tu ρ B) ∧ (z = false → B false) := propext Iff.rfl
theorem c_bOr : bOr tt tu ρ B = tt ρ fun z => (z = true → B true) ∧ (z = false → tu ρ B) := propext Iff.rfl
theorem c_bNot : bNot tt ρ B = tt ρ fun z => B (!z) := propext Iff.rfl
theorem c_dAnd : dAnd tv tw ρ C = tv ρ fun d => fBoolK d fun z => (z = true → tw ρ C) ∧ (z = false → C (.bool false)) := propext Iff.rfl
theorem c_dOr : dOr tv tw ρ C = tv ρ fun d => fBoolK d fun z => (z = true → C (.bool true)) ∧ (z = false → tw ρ C) := propext Iff.rfl
theorem c_dNot : dNot tv ρ C = tv ρ fun d => fBoolK d fun z => C (.bool (!z)) := propext Iff.rfl
theorem c_eIf : eIf tt te ue ρ R = tt ρ fun z => (z = true → te ρ R) ∧ (z = false → ue ρ R) := propext Iff.rfl
theorem c_dIf : dIf tt tv tw ρ C = tt ρ fun z => (z = true → tv ρ C) ∧ (z = false → tw ρ C) := propext Iff.rfl
theorem c_oNone : oNone ρ O = O none := propext Iff.rfl
theorem c_eCut : eCut tv to to' ρ R = tv ρ fun d => to ρ fun l => to' ρ fun h => fCut d l h R := propext Iff.rfl
theorem c_aNil : aNil ρ A = A [] := propext Iff.rfl
theorem c_aCons : aCons tv ta ρ A = tv ρ fun d => ta ρ fun as => A (.dat d :: as) := propext Iff.rfl
def tSl : Option Sl → Prop → Prop
  | some .town, P => P
  | _, _ => False
theorem tSl_t {P : Prop} : tSl (some .town) P = P := propext Iff.rfl
theorem c_aTown : aTown i ta ρ A = tSl ρ[i]? (ta ρ fun as => A (.town :: as)) := by
  unfold aTown
  cases ρ[i]? with
  | none => rfl
  | some s => cases s <;> rfl
theorem c_eCall : eCall S ta ρ R = ta ρ fun as => S as R := propext Iff.rfl
theorem c_eCallK {h : List Ar → List Ar → List Ar} : eCallK S h ta tb ρ R = ta ρ fun as => tb ρ fun bs => S (h as bs) R := propext Iff.rfl
theorem c_eB {f : List D → (Rs → Prop) → Prop} : eB f tl ρ R = tl ρ fun ds => f ds R := propext Iff.rfl
theorem c_sTick : sTick i E ρ = (ρ[i]? = some .town ∧ E.nx ρ) := propext Iff.rfl
theorem c_dCount : dCount i ρ C = (ρ[i]? = some .town ∧ ∀ c : Int, C (.int c)) := propext Iff.rfl
theorem c_dRest : dRest i tv tw ρ C = (ρ[i]? = some .town ∧ tv ρ fun d => ∃ n, d = .int n ∧ tw ρ fun d' => ∃ m, d' = .int m ∧ ∀ n : Int, C (.int n)) := propext Iff.rfl
theorem c_sRest : sRest i tv tw E ρ = (ρ[i]? = some .town ∧ tw ρ fun d => ∃ n, d = .int n ∧ tv ρ fun d => ∃ n, d = .int n ∧ 0 ≤ n ∧ n < 64 ∧ E.nx ρ) := propext Iff.rfl
theorem c_lcC0 {acc : List D} : lcC g tt tv L ρ [] acc = L acc := propext Iff.rfl
end
end Pu
/-! ### sorted, of data alike; xs[::-1] -/
namespace Pu
open PySem PySem.Spec PyProof.Rows L2 PySem.W
abbrev dLe : D → D → Bool := dataLe false (fun d : D => d)
theorem zip_dpAll {K : PySem.W.Frag} {H : Hp} : ∀ {xs : List V} {ds : List D}, DpAll K H xs ds → (∀ p ∈ xs.zip ds, Dp K H p.1 p.2) ∧ (xs.zip ds).map Prod.snd = ds ∧ (xs.zip ds).map Prod.fst = xs
  | _, _, .nil => ⟨fun _ h => (by cases h), rfl, rfl⟩
  | _, _, .cons h t => by
    obtain ⟨h1, h2, h3⟩ := zip_dpAll t
    refine ⟨fun p hp => ?_, by rw [List.zip_cons_cons, List.map_cons, h2], by rw [List.zip_cons_cons, List.map_cons, h3]⟩
    rcases List.mem_cons.mp (by simpa only [List.zip_cons_cons] using hp) with rfl | hp
    · exact h
    · exact h1 p hp
theorem dpAll_of {K : PySem.W.Frag} {H : Hp} : ∀ {ps : List (V × D)}, (∀ p ∈ ps, Dp K H p.1 p.2) → DpAll K H (ps.map Prod.fst) (ps.map Prod.snd)
  | [], _ => .nil
  | p :: ps, h => .cons (h p (by simp)) (dpAll_of fun q hq => h q (by simp [hq]))
theorem each_zip {R : Value → V × D → Prop} : ∀ {xs : List V} {ds : List D} {us : List Value}, Vals xs us → xs.length = ds.length → (∀ v d u, (v, d) ∈ xs.zip ds → RelV v u → R u (v, d)) → EachIs R us (xs.zip ds)
  | [], [], [], _, _, _ => .nil
  | x :: xs, d :: ds, u :: us, r, hl, h => by
    cases r with
    | cons r1 r2 => exact .cons (h x d u (by simp) r1) (each_zip r2 (by simpa using hl) fun v d u hm => h v d u (by simp [hm]))
  | [], _ :: _, _, _, hl, _ => by cases hl
  | _ :: _, [], _, _, hl, _ => by cases hl
  | [], [], _ :: _, r, _, _ => by cases r
  | _ :: _, _ :: _, [], r, _, _ => by cases r
theorem vals_each : ∀ {ps : List (V × D)} {us : List Value}, EachIs (fun u (p : V × D) => RelV p.1 u) us ps → Vals (ps.map Prod.fst) us
  | _, _, .nil => .nil
  | _, _, .cons h t => .cons h (vals_each t)
/-- sorted(xs), xs a list or a tuple of data alike -/
def rSortD (K : PySem.W.Frag) : List V → Hp → VK → Prop := fun vs H Q => ∃ (a : Addr) (xs : List V) (ds : List D), vs = [V.ref a] ∧ (SqL K H a xs ∨ SqT K H a xs) ∧ DpAll K H xs ds ∧ AllAlike ds ∧ Sortable ds ∧ (∀ d ∈ ds, d.depth ≤ 32) ∧
  ∀ ys p, (∀ H' : Hp, DpAll K H' xs ds → DpAll K H' ys (ds.mergeSort dLe)) → H p = none → Q (.ref p) (upd H p (.lst ys))
section
variable {X : Cx}
theorem cr_sortD (hu : X.A.units + 65 < cLine) : CallR X (.builtin "sorted") (rSortD X.K) := by
  intro pins s σ H vs us Q I r h
  obtain ⟨a, xs, ds, rfl, hs, hd, hal, hk, hdep, q⟩ := h
  obtain ⟨u, rfl, ru⟩ := vals1 r
  obtain rfl : u = Value.ref a := ru
  obtain ⟨its, T, o, n, rv, hT, ho, hc, hdt, hz⟩ : ∃ (its : List Value) (T : String) (o : Obj) (n : Nat), Vals xs its ∧ (T = "list" ∨ T = "tuple") ∧ s.heap.get? a = some o ∧ o.cls = .type T ∧ o.data = .seq its.toArray n ∧ xs.length ≤ sizeLine := by
    rcases hs with hs | hs
    · obtain ⟨its, rv, ⟨o, n, ho, hc, _, hd⟩, hz⟩ := I.list hs
      exact ⟨its, "list", o, n, rv, .inl rfl, ho, hc, hd, hz⟩
    · obtain ⟨its, rv, ⟨o, ho, hc, n, hd⟩, hz⟩ := I.tuple hs
      exact ⟨its, "tuple", o, n, rv, .inr rfl, ho, hc, hd, hz⟩
  have hzi : its.length ≤ sizeLine := by rw [← rv.length]; exact hz
  have hdl := dpAll_len hd
  obtain ⟨z1, z2, z3⟩ := zip_dpAll hd
  refine Calls.call_function_entry kind_sorted plain_sorted entry_sorted (args_sorted1 _) ?_
  unfold Builtin.«sorted»
  refine wpAny_bind (m := checkCount "sorted" 1 1 _) (wpAny_pure ?_)
  refine wpAny_bind (wpAny_collect_seq a hT ho hc hdt (fun h' kp => ?_) (by rw [List.size_toArray]; exact hzi))
  have e0 : its.toArray.toList = its := by simp
  rw [e0]
  refine wpAny_bind (wpAny_newList ?_ hzi)
  have hoL : (h'.push (seqObj "list" its.toArray 0)).get? h'.objs.size = some (seqObj "list" its.toArray 0) := Heap.get?_push_size _ rfl
  have hkeep : ∀ b o', s.heap.get? b = some o' → (h'.push (seqObj "list" its.toArray 0)).get? b = some o' := fun b o' e => Heap.get?_push_of_some _ (kp b o' e)
  have e1 : EachIs (fun u (p : V × D) => RelV p.1 u) its (xs.zip ds) := each_zip rv hdl fun v d u _ h => h
  have e2 : EachIs (fun u (p : V × D) => ∃ as, Reads (h'.push (seqObj "list" its.toArray 0)) u p.2 as ∧ h'.objs.size ∉ as) its (xs.zip ds) := each_zip rv hdl fun v d u hm hr => by
    obtain ⟨as, rd⟩ := Dp.reads I d v u (z1 _ hm) hr
    refine ⟨as, PyProof.Rows.Reads.keeps (fun _ _ => hkeep _ _) rd, fun hin => ?_⟩
    obtain ⟨o', ho'⟩ := PyProof.On.reads_mem_get rd _ hin
    exact absurd (Heap.lt_size (kp _ _ ho')) (Nat.lt_irrefl _)
  have hal' : AllAlike ((xs.zip ds).map Prod.snd) := by rw [z2]; exact hal
  have hk' : Sortable ((xs.zip ds).map Prod.snd) := by rw [z2]; exact hk
  show wpAny _ _ _ _ _ { s with heap := h'.push (seqObj "list" its.toArray 0) }
  refine wpAny_bind (wpAny_holding (list_sort_data (R := fun u (p : V × D) => RelV p.1 u) (enc := Prod.snd) (s := { s with heap := h'.push (seqObj "list" its.toArray 0) }) hoL e1 e2 hal' hk' (by rw [List.length_zip]; omega) (fun p hp => ?_) fun out ho1 ho2 => ?_))
  · have hm : p.2 ∈ ds := by
      rw [← z2]
      exact List.mem_map_of_mem (f := Prod.snd) hp
    have h1 := hdep _ hm
    have h2 : X.A.in1.units = X.A.units + 1 := rfl
    rw [h2]
    omega
  · have I1 : L2.Inv X pins σ H { s with heap := h' } := I.kept (t' := s.toks) kp
    have hsz : h'.objs.size < (h'.push (seqObj "list" its.toArray 0)).objs.size := by rw [size_push']; omega
    have k3 : ∀ b u, h'.get? b = some u → (sortedHeap (h'.push (seqObj "list" its.toArray 0)) h'.objs.size its out.toArray).get? b = some u := fun b u e => by
      have hlt := Heap.lt_size e
      rw [sortedHeap_old (Nat.ne_of_lt hlt) (Nat.lt_trans hlt hsz)]
      exact Heap.get?_push_of_some _ e
    obtain ⟨n2, hn2⟩ := sortedHeap_at (out := out.toArray) hoL
    have hv : Vals (((xs.zip ds).mergeSort (dataLe false Prod.snd)).map Prod.fst) out := vals_each ho2
    refine wpAny_pure ⟨_, rfl, .ref h'.objs.size, upd H h'.objs.size (.lst (((xs.zip ds).mergeSort (dataLe false Prod.snd)).map Prod.fst)), I1.laid (t' := s.toks) k3 (Nat.le_refl _) ⟨?_, out, n2, hv, hn2⟩, rfl, q _ _ (fun H' hd' => ?_) (I1.hok.fresh (Nat.le_refl _))⟩
    · rw [List.length_map, List.length_mergeSort, List.length_zip]
      omega
    · obtain ⟨w1, w2, w3⟩ := zip_dpAll hd'
      have e5 : ds.mergeSort dLe = ((xs.zip ds).mergeSort (dataLe false Prod.snd)).map Prod.snd := by
        have := List.map_mergeSort (r := dataLe false Prod.snd) (s := dLe) (f := Prod.snd) (l := xs.zip ds) (fun a _ b _ => rfl)
        rw [this, w2]
      rw [e5]
      exact dpAll_of fun p hp => w1 p (List.mem_mergeSort.mp hp)
/-- data that sorted takes -/
def SortOk (ds : List D) : Prop := (∀ d ∈ ds, sh 31 d = true) ∧ AllAlike ds ∧ Sortable ds
def fSortD : List D → (Rs → Prop) → Prop
  | [.list ds], C => SortOk ds ∧ C (.lst (ds.mergeSort dLe))
  | [.tuple ds], C => SortOk ds ∧ C (.lst (ds.mergeSort dLe))
  | _, _ => False
theorem SortOk.dep {ds : List D} (h : SortOk ds) : ∀ d ∈ ds, d.depth ≤ 32 := fun d hd => by
  have := (sh_lay 31 d (h.1 d hd)).2
  omega
theorem fSortD_ok : Cb X (rSortD X.K) fSortD := fun τ H0 H γ σ ρ vs ds C r b f Q q => by
  unfold fSortD at f
  split at f
  · obtain ⟨v, rfl, p, ws, rfl, hs, ha⟩ := paired1 b
    exact ⟨p, ws, _, rfl, .inl (sqL_same res_le hs), dpAll_same res_le _ _ ha, f.1.2.1, f.1.2.2, f.1.dep, fun ys l hy hl => q _ _ _ f.2 (.new hl) (new_lst r hl (hy _ ha))⟩
  · obtain ⟨v, rfl, p, ws, rfl, hs, ha⟩ := paired1 b
    exact ⟨p, ws, _, rfl, .inr (sqT_same res_le hs), dpAll_same res_le _ _ ha, f.1.2.1, f.1.2.2, f.1.dep, fun ys l hy hl => q _ _ _ f.2 (.new hl) (new_lst r hl (hy _ ha))⟩
  · exact f.elim
end
/-! xs[::-1] -/
section
variable {prog : Program} {w : World} {A : Around} {E : Value → Shared → Prop} {s : Shared}
theorem places_back (n : Nat) : Builtin.Slice.slicePlaces ((n : Int) - 1) (-1) (-1) = n := by
  unfold Builtin.Slice.slicePlaces
  rw [if_neg (by decide), show (- -1 : Int) = 1 from rfl, Int.ediv_one]
  split <;> omega
theorem applied_back {sl : Addr} {vl vu vs : Value} {n : Nat} {Q : Int × Int × Nat → Shared → Prop} (hs : s.heap.IsSliceOf sl vl vu vs) (pl : IsPart vl none) (pu : IsPart vu none) (ps : IsPart vs (some (-1)))
    (h : Q ((n : Int) - 1, -1, n) s) : wpAny (model prog w) A (Builtin.Slice.sliceApplied (.ref sl) (pure (n : Int))) Q E s := by
  obtain ⟨os, hos, hcs, hds⟩ := id hs
  unfold Builtin.Slice.sliceApplied Builtin.Slice.sliceFields
  refine wpAny_bind (wpAny_bind (wpAny_field hos hds (x := vl) rfl (wpAny_bind (wpAny_field hos hds (x := vu) rfl (wpAny_bind (wpAny_field hos hds (x := vs) rfl (wpAny_pure ?_)))))))
  refine wpAny_bind (HT.slicePart_ ps ?_)
  show wpAny _ _ (if ((-1 : Int) == 0) = true then _ else _) _ _ s
  rw [if_neg (by decide)]
  refine wpAny_bind (HT.slicePart_ pl (wpAny_bind (HT.slicePart_ pu (wpAny_bind (wpAny_pure ?_)))))
  show wpAny _ _ (pure ((n : Int) - 1, (-1 : Int), Builtin.Slice.slicePlaces ((n : Int) - 1) (-1) (-1))) _ _ s
  rw [places_back]
  exact wpAny_pure h
theorem fm_congr {α β : Type} {f g : α → Option β} : ∀ {l : List α}, (∀ x ∈ l, f x = g x) → l.filterMap f = l.filterMap g
  | [], _ => rfl
  | a :: l, h => by rw [List.filterMap_cons, List.filterMap_cons, h a (by simp), fm_congr fun x hx => h x (by simp [hx])]
theorem pick_back (xs : Array Value) : ((List.range xs.size).filterMap fun (m : Nat) => xs[((xs.size : Int) - 1 + (m : Int) * (-1)).toNat]?).toArray = xs.toList.reverse.toArray := by
  have e : (List.range xs.size).filterMap (fun (m : Nat) => xs[((xs.size : Int) - 1 + (m : Int) * (-1)).toNat]?) = ((List.range xs.size).map fun k => xs.size - 1 - k).filterMap (xs[·]?) := by
    rw [List.filterMap_map]
    refine fm_congr fun m hm => ?_
    have := List.mem_range.mp hm
    have e2 : ((xs.size : Int) - 1 + (m : Int) * (-1)).toNat = xs.size - 1 - m := by omega
    rw [e2]
    rfl
  rw [e, krv_range, List.filterMap_reverse, krv_all]
theorem getItem_tuple_back {t sl : Addr} {items : Array Value} {vl vu vs : Value} {Q : Value → Shared → Prop} (ht : IsTup s.heap t items) (hs : s.heap.IsSliceOf sl vl vu vs) (pl : IsPart vl none) (pu : IsPart vu none) (ps : IsPart vs (some (-1)))
    (h : Q (.ref s.heap.objs.size) { s with heap := s.heap.push { cls := .type "tuple", data := .seq items.toList.reverse.toArray } }) (hsz : items.size ≤ sizeLine) : wpAny (model prog w) A (getItem (.ref t) (.ref sl)) Q E s := by
  have htake : sizeOk (.seq items.toList.reverse.toArray) := by
    show items.toList.reverse.toArray.size ≤ sizeLine
    rw [List.size_toArray, List.length_reverse, Array.length_toList]
    exact hsz
  obtain ⟨os, hos, hcs, hds⟩ := id hs
  have hTs : s.TypeIs (.ref sl) "slice" := ⟨os, hos, hcs⟩
  unfold getItem
  try with_reducible refine wpAny_holding ?_
  first | refine wpAny_bind (wpAny_pure ?_) | skip
  refine wpAny_bind (wpAny_sequenceKey ht.typeIs (by decide) ?_)
  refine wpAny_bind (wpAny_callSpecial?_slot (name := Str.ofString "__getitem__") ht.typeIs PyProof.Rows.slot_tuple_getitem
    (wpAny_call_entry PyProof.Rows.slot_tuple_getitem ht.typeIs PyProof.Rows.entry_tuple_getitem ?_ (PyProof.Rows.args_tuple_getitem _ _)))
  show wpAny _ _ (Builtin.Tuple.tupleItemsOf (.ref t) >>= _) _ _ s
  refine wpAny_bind (PyProof.Rows.tupleItemsOf_ ht ?_)
  refine wpAny_bind (wpAny_typeOf hTs ?_)
  rw [if_pos (by decide)]
  refine wpAny_bind (applied_back hs pl pu ps ?_)
  have hno : ¬ (((((items.size : Int) - 1) == 0) && ((-1 : Int) == 1) && (items.size == items.size)) = true) := by simp
  show wpAny _ _ (if ((((items.size : Int) - 1) == 0) && ((-1 : Int) == 1) && (items.size == items.size)) = true then _ else _) _ _ s
  rw [if_neg hno, pick_back]
  first
    | exact wpAny_bind (m := Builtin.Tuple.tupleExact _) (wpAny_newObj_type (wpAny_pure ⟨_, rfl, wpAny_pure h⟩) htake)
    | exact wpAny_bind (m := Builtin.Tuple.tupleExact _) (wpAny_newObj_type (wpAny_bind (wpAny_pure (wpAny_pure ⟨_, rfl, wpAny_pure h⟩))) htake)
    | exact wpAny_bind (wpAny_bind (m := Builtin.Tuple.tupleExact _) (wpAny_newObj_type (wpAny_pure (wpAny_pure ⟨_, rfl, wpAny_pure h⟩)) htake))
    | exact wpAny_bind (wpAny_bind (m := Builtin.Tuple.tupleExact _) (wpAny_newObj_type (wpAny_pure ⟨_, rfl, wpAny_pure h⟩) htake))
end
section
variable {X : Cx}
def tRev (K : PySem.W.Frag) (te : TE) : TE := fun σ H Q => te σ H fun x H1 => ∃ a xs, x = .ref a ∧ ((SqL K H1 a xs ∧ ∀ p, H1 p = none → Q (.ref p) (upd H1 p (.lst xs.reverse))) ∨ (SqT K H1 a xs ∧ ∀ p o, o.dict = none → H1 p = none → Q (.ref p) (upd H1 p (.frz o (.tup xs.reverse)))))
theorem pe_rev {e : Expr} {te : TE} {k : Nat} {p1 p2 p3 pos : Pos} (he : PE X e te) : PE X (.Subscript e (.Slice none none (some (.UnaryOp .USub (.Constant (.int 1) k p1) p2)) p3) pos) (tRev X.K te) := by
  refine ⟨fun pins s σ H Q I h => ?_⟩
  refine Subscript_ (thn (he.run pins s σ H _ I h) fun v s1 ⟨x, H1, I1, r1, q1⟩ => ?_)
  obtain ⟨a, xs, ex, q⟩ := q1
  subst ex
  cases r1
  have hst : PO X (some (.UnaryOp .USub (.Constant (.int 1) k p1) p2)) (tPart (tUn (rU fun i => .int (-i)) (tC (.int 1)))) := po_some (pe_un un_neg pe_int)
  refine wpAny_Slice (thn (po_none.run pins s1 σ H1 (fun o H2 => o = none ∧ H2 = H1) I1 ⟨rfl, rfl⟩) fun vl s2 ⟨l, H2, I2, pl, el, e2⟩ => ?_)
  subst el e2
  refine thn (po_none.run pins s2 σ H2 (fun o H3 => o = none ∧ H3 = H2) I2 ⟨rfl, rfl⟩) fun vu s3 ⟨u, H3, I3, pu, eu, e3⟩ => ?_
  subst eu e3
  refine thn (hst.run pins s3 σ H3 (fun o H4 => o = some (-1) ∧ H4 = H3) I3 ⟨1, rfl, -1, rfl, rfl, rfl⟩) fun vs s4 ⟨o, H4, I4, ps, eo, e4⟩ => ?_
  subst eo e4
  have I5 : L2.Inv X pins σ H4 { s4 with heap := s4.heap.push { cls := .type "slice", data := .fields #[vl, vu, vs] } } := I4.kept (t' := s4.toks) fun b ob q => Heap.get?_push_of_some _ q
  show wpAny (model X.prog X.w) X.A (subscriptTail e (.Slice none none (some (.UnaryOp .USub (.Constant (.int 1) k p1) p2)) p3) (.ref a) (.ref s4.heap.objs.size)) (EP X pins σ Q) X.xe { s4 with heap := s4.heap.push { cls := .type "slice", data := .fields #[vl, vu, vs] } }
  rcases q with ⟨hx, q⟩ | ⟨hx, q⟩
  · obtain ⟨its, r, ht, hz⟩ := I5.list hx
    have hlen := r.length
    refine tail_any (ops := [.ref a, .ref s4.heap.objs.size]) ht.isList.typeIs (PySem.slot_list_getitem.lookup) ?_ (by with_unfolding_all rfl)
    refine wpAny_getItem_list_slice ht.isList (Heap.IsSliceOf.new _ vl vu vs) pl pu ps (by decide) ?_ (by rw [List.size_toArray]; omega)
    rw [PySem.W.krv_pick]
    refine ⟨.ref _, _, I5.laid (t' := s4.toks) (o := .lst xs.reverse) (fun b ob q => Heap.get?_push_of_some _ q) (Nat.le_refl _) ?_, rfl, q _ (I5.hok.fresh (Nat.le_refl _))⟩
    exact ⟨by rw [List.length_reverse]; exact hz, _, 0, r.reverse, Heap.get?_push_size _ rfl⟩
  · obtain ⟨its, r, ht, hz⟩ := I5.tuple hx
    have hlen := r.length
    refine tail_any (ops := [.ref a, .ref s4.heap.objs.size]) ht.typeIs PyProof.Rows.slot_tuple_getitem.lookup ?_ (by with_unfolding_all rfl)
    refine getItem_tuple_back ht (Heap.IsSliceOf.new _ vl vu vs) pl pu ps ?_ (by rw [List.size_toArray]; omega)
    exact ⟨.ref _, _, inv_plT (t' := s4.toks) I5 (xs := xs.reverse) (by rw [List.length_reverse]; exact hz) r.reverse, rfl, q _ _ rfl (I5.hok.fresh (Nat.le_refl _))⟩
theorem dpAll_rev {K : PySem.W.Frag} {H : Hp} {vs : List V} {ds : List D} (h : DpAll K H vs ds) : DpAll K H vs.reverse ds.reverse := by
  obtain ⟨h1, h2, h3⟩ := zip_dpAll h
  have := dpAll_of (ps := (vs.zip ds).reverse) fun p hp => h1 p (List.mem_reverse.mp hp)
  rwa [List.map_reverse, List.map_reverse, h2, h3] at this
variable {τ : Tn} {a : Expr} {t : UV} {pos : Pos}
def fRev : D → (Rs → Prop) → Prop
  | .list ds, C => C (.lst ds.reverse)
  | .tuple ds, C => C (.dat (.tuple ds.reverse))
  | _, _ => False
def eRev (t : UV) : UE := fun ρ C => t ρ fun d => fRev d C
theorem je_rev {k : Nat} {p1 p2 p3 : Pos} (ha : JV τ X a t) : JE τ X (.Subscript a (.Slice none none (some (.UnaryOp .USub (.Constant (.int 1) k p1) p2)) p3) pos) (eRev t) := by
  intro ρ C c H0 γ σ H r Q q
  refine wpE_of (pe_rev pe_w) (ha ρ _ c H0 γ σ H r _ fun d v H2 c e b => ?_)
  have r2 := r.after e
  cases d with
  | list ds =>
    obtain ⟨p, vs, rfl, hs, ha⟩ := b
    refine ⟨p, vs, rfl, .inl ⟨sqL_same res_le hs, fun p' hp => q _ _ _ c (e.trans (.new hp)) ⟨p', _, rfl, e.fresh r.inv hp, upd_same, dpAll_same (res_mono fun a o n ea => ?_) _ _ (dpAll_rev ha)⟩⟩⟩
    have hne : a ≠ p' := ne_of_none ea hp
    exact ⟨fun z => z.elim n hne, by rw [upd_ne hne]; exact ea⟩
  | tuple ds =>
    obtain ⟨p, vs, rfl, hs, ha⟩ := b
    exact ⟨p, vs, rfl, .inr ⟨sqT_same res_le hs, fun p' o ho hp => q _ _ _ c (e.trans (.new hp)) (.tup (.inl (.inr ⟨o, res_put (r2.notOwn hp) upd_same ho⟩)) (dpAll_after (.new hp) (dpAll_rev ha)))⟩⟩
  | str x => exact c.elim
  | none => exact c.elim
  | bool _ => exact c.elim
  | int _ => exact c.elim
  | dict _ => exact c.elim
end
/-! lemmas for the math -/
section
variable {ds : List D} {R : Rs → Prop} {ρ : En} {tv : UV}
theorem c_eRev : eRev tv ρ R = tv ρ fun d => fRev d R := propext Iff.rfl
theorem q_rev_l : fRev (.list ds) R = R (.lst ds.reverse) := rfl
theorem q_rev_t : fRev (.tuple ds) R = R (.dat (.tuple ds.reverse)) := rfl
theorem q_sortd_l : fSortD [.list ds] R = (SortOk ds ∧ R (.lst (ds.mergeSort dLe))) := rfl
theorem q_sortd_t : fSortD [.tuple ds] R = (SortOk ds ∧ R (.lst (ds.mergeSort dLe))) := rfl
end
end Pu
/-! ### sorted(set(xs)), xs a list or a tuple of ints -/
namespace Pu
open PySem PySem.Spec PyProof.Rows L2 PySem.W
section
variable {P : Program} {w : World} {A : Around} {E : Value → Shared → Prop} {s : Shared}
theorem call_set_listI {l : Addr} {items : Array Value} (ns : List Int) {Q : Value → Shared → Prop} (hh : A.handled = none) (hl : s.heap.IsList l items) (hit : IntsAre items.toList ns) (hb : ns.length + 1 < scanBound)
    (h : ∀ (h' : Heap) (tk c : Nat), SetR w h' s.heap.objs.size (fun j => decide (j ∈ ns)) c → c ≤ ns.length → (∀ b o, s.heap.get? b = some o → h'.get? b = some o) → Q (.ref s.heap.objs.size) { s with heap := h', toks := tk }) :
    wpAny (model P w) A (call (.type "set") [.ref l]) Q E s := by
  have hisz : items.size = ns.length := by
    have q := IntsAre.length hit
    rw [Array.length_toList] at q
    exact q
  obtain ⟨c, tl, hmro⟩ := F.called_set.mro
  have hmade := F.called_set.made
  have hsub := F.called_set.sub
  refine wpAny_call (codeAny_of_tree ?_)
  show wpAny _ _ (callAny (.type "set") _) _ _ _
  refine wpAny_pure ⟨Code.quiet_builtin _ (by decide +kernel), codeAny_builtin F.entry_type_call ?_⟩
  rw [Around.under_plain (weight_type_call_type "set" [.ref l] []) rfl]
  have h1 := F.called_set.notType
  have h2 := F.called_set.canCreate
  have hct := F.typeCall_set_1 (.ref l)
  repeat (any_goals (first | assumption | wp_step))
  refine codeAny_mono (code_set_led1 (.ref l) (E := E) (Q₁ := fun obj s₁ => obj = .ref s.heap.objs.size ∧ s₁ = { s with heap := s.heap.push { cls := .type "set", dict := none, data := .set #[] 0 (.fresh 0 0 (!w.params.followText "set-order")) } }) ⟨rfl, rfl⟩) fun r s₁ hr => ?_
  cases r with
  | error e => exact hr
  | ok fl =>
    cases fl with
    | ret obj =>
      obtain ⟨rfl, rfl⟩ := hr
      have hS : (s.heap.push { cls := .type "set", dict := none, data := .set #[] 0 (.fresh 0 0 (!w.params.followText "set-order")) }).get? s.heap.objs.size = some { cls := .type "set", dict := none, data := .set #[] 0 (.fresh 0 0 (!w.params.followText "set-order")) } := Heap.get?_push_size _ rfl
      have hT : Shared.TypeIs { s with heap := s.heap.push { cls := .type "set", dict := none, data := .set #[] 0 (.fresh 0 0 (!w.params.followText "set-order")) } } (.ref s.heap.objs.size) "set" := ⟨_, hS, rfl⟩
      have hli := F.called_set.init.lookup
      have hbi := F.called_set.init.bind (.ref s.heap.objs.size)
      repeat (any_goals (first | assumption | wp_step))
      refine codeAny_mono (codeAny_call_builtin (R := wants (fun r s₂ => r = .none ∧ ∃ h' tk c, s₂ = { s with heap := h', toks := tk } ∧ SetR w h' s.heap.objs.size (fun j => decide (j ∈ ns)) c ∧ c ≤ ns.length ∧
          (∀ b o, s.heap.get? b = some o → h'.get? b = some o)) E) F.called_set.init.plain F.entry_set_init (check_set_init_1 hT ?_)) fun r₂ s₂ hr₂ => ?_
      · obtain ⟨ol, hol, hcl, nl, hdl⟩ := hl
        obtain ⟨ocls, odict, odata, oslots⟩ := ol
        simp only at hcl hdl
        subst hcl; subst hdl
        have hol' : (s.heap.push { cls := .type "set", dict := none, data := .set #[] 0 (.fresh 0 0 (!w.params.followText "set-order")) }).get? l = some { cls := .type "list", dict := odict, data := .seq items nl, slots := oslots } := Heap.get?_push_of_some _ hol
        have hsls := F.sub_list_set
        have hslf := F.sub_list_frozenset
        have hne : (Value.type "list" == Value.type "dict") = false := by decide
        have hl1 : (s.heap.push { cls := .type "set", dict := none, data := .set #[] 0 (.fresh 0 0 (!w.params.followText "set-order")) }).IsList l items := ⟨_, hol', rfl, nl, rfl⟩
        unfold Builtin.«set.__init__» noKeywords Builtin.Frozenset.updateFrom
        generalize hPI : pyIter = PI
        wp_walk
        subst hPI
        refine wpAny_pyIter_list hl1 ?_
        refine wpAny_bind (wpAny_runValue ?_)
        have hlS : l < s.heap.objs.size := Heap.lt_size hol
        have hh3 : A.in1.in1.in1.handled = none := by simp [hh]
        have hneI : l ≠ (s.heap.push { cls := .type "set", dict := none, data := .set #[] 0 (.fresh 0 0 (!w.params.followText "set-order")) }).objs.size := by
          rw [Heap.size_push]; exact Nat.ne_of_lt (Nat.lt_succ_of_lt hlS)
        have hSf : s.heap.objs.size ∉ [(s.heap.push { cls := .type "set", dict := none, data := .set #[] 0 (.fresh 0 0 (!w.params.followText "set-order")) }).objs.size, l] := by
          rw [Heap.size_push]; simp only [List.mem_cons, List.mem_singleton, List.not_mem_nil, or_false, not_or]
          exact ⟨Nat.ne_of_lt (Nat.lt_succ_self _), Nat.ne_of_gt hlS⟩
        have hval : ∀ (i : Nat) (v : Value), items[i]? = some v → ∃ k t, ns[i]? = some k ∧ v = .int k t := fun i v hv => by
          have hi : i < ns.length := by rw [← hisz]; exact (Array.getElem?_eq_some_iff.mp hv).1
          obtain ⟨t, e⟩ := PyProof.Rows.IntsAre.int_at hit i v (by rw [Array.getElem?_toList]; exact hv)
          refine ⟨ns[i], t, List.getElem?_eq_getElem hi, ?_⟩
          rw [e, List.getD_eq_getElem?_getD, List.getElem?_eq_getElem hi] <;> rfl
        refine set_update_ints ((Walks.list hh3 _ l hneI items).toS) s.heap.objs.size
          hSf ns hisz hb hval (items.size - 0) 0 _ (by omega) (Nat.zero_le _)
          ⟨⟨_, Heap.get?_push_size _ rfl, rfl, rfl⟩, (hl1.push _)⟩ ⟨0, Nat.le_refl 0, setR_new_at (Heap.get?_push_of_some _ hS)⟩ ?_
        intro s' c' hm hc' hS'
        obtain ⟨h', g2, d', tk', os'⟩ := s'
        have eg : g2 = s.gens := hm.gens
        have ed : d' = s.drawn := hm.drawn
        have eo : os' = s.os := hm.os
        subst eg; subst ed; subst eo
        show wpAny _ _ _ _ _ _
        refine wpAny_pure ?_
        show wpAny _ _ (ret Value.none) _ _ _
        rw [hisz] at hc'
        refine wpAny_pure ⟨rfl, h', tk', c', rfl, hS', hc', fun b o e => ?_⟩
        have hb0 : b < s.heap.objs.size := Heap.lt_size e
        have hb1 : b ≠ s.heap.objs.size := Nat.ne_of_lt hb0
        have hb2 : b ≠ (s.heap.push { cls := .type "set", dict := none, data := .set #[] 0 (.fresh 0 0 (!w.params.followText "set-order")) }).objs.size := by
          rw [Heap.size_push]; exact Nat.ne_of_lt (Nat.lt_succ_of_lt hb0)
        exact hm.heap b o (by simp only [List.mem_cons, List.mem_singleton, List.not_mem_nil, or_false, not_or]; exact ⟨hb1, hb2⟩) (Heap.get?_push_of_some _ (Heap.get?_push_of_some _ e))
      · cases r₂ with
        | error e => exact hr₂
        | ok fl₂ =>
          cases fl₂ with
          | ret r =>
            obtain ⟨rfl, h', tk, c', rfl, hS', hc', hk'⟩ := hr₂
            repeat (any_goals (first | assumption | wp_step))
            exact h _ _ _ hS' hc' hk'
          | _ => exact hr₂.elim
    | _ => exact hr.elim
end
end Pu
namespace Pu
open PySem PySem.Spec PyProof.Rows L2 PySem.W
section
variable {X : Cx}
/-- set(xs), xs a list or a tuple of ints -/
def rSetI (K : PySem.W.Frag) (w : World) : List V → Hp → VK → Prop := fun vs H Q => ∃ (a : Addr) (ns : List Int), vs = [V.ref a] ∧ (SqL K H a (ns.map V.int) ∨ SqT K H a (ns.map V.int)) ∧ ns.length < 1000 ∧
  ∀ p c, c ≤ ns.length → H p = none → Q (.ref p) (upd H p (SetO w p (fun j => decide (j ∈ ns)) c))
theorem bound1000 {n : Nat} (h : n < 1000) : n + 1 < scanBound := by
  have : (2000 : Nat) ≤ scanBound := by decide
  omega
theorem cr_setI (hc : X.calm = true) : CallR X (.type "set") (rSetI X.K X.w) := by
  intro pins s σ H vs us Q I r h
  obtain ⟨a, ns, rfl, hs, hl, q⟩ := h
  rw [Vals.ref1 r]
  have fin : ∀ (h' : Heap) (tk c : Nat), SetR X.w h' s.heap.objs.size (fun j => decide (j ∈ ns)) c → c ≤ ns.length → (∀ b o, s.heap.get? b = some o → h'.get? b = some o) → EP X pins σ Q (.ref s.heap.objs.size) { s with heap := h', toks := tk } := fun h' tk c hS hc hk =>
    ⟨.ref s.heap.objs.size, upd H s.heap.objs.size (SetO X.w s.heap.objs.size (fun j => decide (j ∈ ns)) c), I.laid (t' := tk) hk (Nat.le_refl _) (setO_new hS), rfl, q _ c hc (I.hok.fresh (Nat.le_refl _))⟩
  rcases hs with hs | hs
  · obtain ⟨its, rv, p, hz⟩ := I.list hs
    exact call_set_listI ns (I.ok.hd hc) p.isList (by simpa using intsAre_of rv) (bound1000 hl) fin
  · obtain ⟨its, rv, p, hz⟩ := I.tuple hs
    exact call_set_tupI ns (I.ok.hd hc) p (by simpa using intsAre_of rv) (bound1000 hl) fin
end
section
variable {X : Cx} {τ : Tn} {cp : List Str} {G : Gx} {N : List Str} {sc : Scope} {k : Nat} {e : Expr} {t : UV} {p p2 pos pos2 : Pos}
def fSSet : D → (Rs → Prop) → Prop
  | .list ds, C => ∃ ns, intsOf ds = some ns ∧ ns.length < 64 ∧ ∀ ms : List Int, ms.Pairwise (· < ·) → (∀ j, j ∈ ms ↔ j ∈ ns) → C (.lst (ms.map PyData.int))
  | .tuple ds, C => ∃ ns, intsOf ds = some ns ∧ ns.length < 64 ∧ ∀ ms : List Int, ms.Pairwise (· < ·) → (∀ j, j ∈ ms ↔ j ∈ ns) → C (.lst (ms.map PyData.int))
  | _, _ => False
def eSSet (t : UV) : UE := fun ρ C => t ρ fun d => fSSet d C
theorem je_sset (O : Ok cp G N sc k X) (hm : Free G "sorted") (hm2 : Free G "set") (ha : JV τ X e t) (hg : sc.names.lookup ("sorted" : Str) = some .globalImplicit := by rfl) (hg2 : sc.names.lookup ("set" : Str) = some .globalImplicit := by rfl)
    (he : starEach [e] X.env = (false, eval e X.env) :: starEach [] X.env := by rfl) : JE τ X (.Call (.Name "sorted" p) [.Call (.Name "set" p2) [e] [] pos2] [] pos) (eSSet t) := by
  intro ρ C c H0 γ σ H r Q q
  refine wpE_of (pe_callB (cr_sortedSet O.calm) (by show X.env.scope.names.lookup ("sorted" : Str) = _; rw [O.es]; exact hg) (by rw [O.em]; exact hm) (by decide +kernel : bootBuiltins "sorted" = some (.builtin "sorted"))
    (pa_cons (pe_callTy (cr_setI O.calm) (by show X.env.scope.names.lookup ("set" : Str) = _; rw [O.es]; exact hg2) (by rw [O.em]; exact hm2) (by decide +kernel : bootBuiltins "set" = some (.type "set")) (pa_cons pe_w pa_nil he) (by decide) (by decide) he (by rfl)) pa_nil (by rfl)) (by decide) (by decide) (by rfl) (by rfl)) ?_
  refine ha ρ _ c H0 γ σ H r _ fun d v H2 c e1 b => ?_
  have main : ∀ (a : Addr) (vs : List V) (ds : List D), v = .ref a → (SqL X.K H2 a vs ∨ SqT X.K H2 a vs) → DpAll X.K (res H2 (own τ σ ρ)) vs ds → (∃ ns, intsOf ds = some ns ∧ ns.length < 64 ∧ ∀ ms : List Int, ms.Pairwise (· < ·) → (∀ j, j ∈ ms ↔ j ∈ ns) → C (.lst (ms.map PyData.int))) →
      rSetI X.K X.w [v] H2 fun v1 H3 => rSortedSet X.w [v1] H3 Q := fun a vs ds ev hs ha ⟨ns, h1, h2, h3⟩ => by
    have e2 := intsOf_dp h1 ha
    subst e2
    refine ⟨a, ns, by rw [ev], hs, by omega, fun p' c hc hp => ⟨p', _, c, rfl, upd_same, by omega, fun ms p'' hpw hmem hlen hp2 => ?_⟩⟩
    have e3 : Ext τ H2 (upd H2 p' (SetO X.w p' (fun j => decide (j ∈ ns)) c)) := .new hp
    have e4 := e1.trans e3
    have r3 := (r.after e1).after e3
    refine q _ _ _ (h3 ms hpw fun j => by rw [hmem j, decide_eq_true_iff]) (e4.trans (.new hp2)) ?_
    exact rs_back r e4 (new_lst r3 hp2 (dp_ints ms))
  cases d with
  | list ds =>
    obtain ⟨a, vs, rfl, hs, ha⟩ := b
    exact main a vs ds rfl (.inl (sqL_same res_le hs)) ha c
  | tuple ds =>
    obtain ⟨a, vs, rfl, hs, ha⟩ := b
    exact main a vs ds rfl (.inr (sqT_same res_le hs)) ha c
  | str x => exact c.elim
  | none => exact c.elim
  | bool _ => exact c.elim
  | int _ => exact c.elim
  | dict _ => exact c.elim
theorem c_eSSet {ρ : En} {R : Rs → Prop} : eSSet t ρ R = t ρ fun d => fSSet d R := propext Iff.rfl
theorem q_sset_l {ds : List D} {R : Rs → Prop} : fSSet (.list ds) R ↔ ixC (intsOf ds) fun ns => ns.length < 64 ∧ ∀ ms : List Int, ms.Pairwise (· < ·) → (∀ j, j ∈ ms ↔ j ∈ ns) → R (.lst (ms.map PyData.int)) := by rw [ixC_iff]; rfl
theorem q_sset_t {ds : List D} {R : Rs → Prop} : fSSet (.tuple ds) R ↔ ixC (intsOf ds) fun ns => ns.length < 64 ∧ ∀ ms : List Int, ms.Pairwise (· < ·) → (∀ j, j ∈ ms ↔ j ∈ ns) → R (.lst (ms.map PyData.int)) := by rw [ixC_iff]; rfl
end
end Pu
/-! ### dicts of one's own: {}, d[k] = v, d.update(e), dict(pairs), sorted(d), d[k], d.get(k, v) -/
namespace Pu
open PySem PySem.Spec PyProof.Rows L2 PySem.W
def keyD : D → Option Key
  | .int i => some (.inl i)
  | .str x => some (.inr x)
  | _ => none
theorem dp_key {K : PySem.W.Frag} {H : Hp} {v : V} {d : D} {k : Key} (h : Dp K H v d) (e : keyD d = some k) : v = kV k := by
  cases d with
  | int i => cases e; cases h; rfl
  | str x => cases e; cases h; rfl
  | none => cases e
  | bool b => cases e
  | list ds => cases e
  | tuple ds => cases e
  | dict kvs => cases e
/-- a key's datum stored -/
def putD (kds : List (Key × D)) (k : Key) (d : D) : List (Key × D) :=
  if kds.any (fun p => decide (p.1 = k)) then kds.map fun p => if p.1 = k then (p.1, d) else p else kds ++ [(k, d)]
def mergeD (kds more : List (Key × D)) : List (Key × D) := more.foldl (fun acc p => putD acc p.1 p.2) kds
theorem kv_any {K : PySem.W.Frag} {H : Hp} {k : Key} : ∀ {kvs : List (Key × V)} {kds : List (Key × D)}, KvOk K H kvs kds → (kvs.any fun p => decide (p.1 = k)) = kds.any fun p => decide (p.1 = k)
  | _, _, .nil => rfl
  | _, _, .cons h t => by
    rw [List.any_cons, List.any_cons, kv_any t, h.1]
theorem kv_map {K : PySem.W.Frag} {H : Hp} {k : Key} {v : V} {d : D} (hv : Dp K H v d) : ∀ {kvs : List (Key × V)} {kds : List (Key × D)}, KvOk K H kvs kds → KvOk K H (kvs.map fun p => if p.1 = k then (p.1, v) else p) (kds.map fun p => if p.1 = k then (p.1, d) else p)
  | _, _, .nil => .nil
  | _, _, .cons (a := p) (b := q) h t => by
    rw [List.map_cons, List.map_cons]
    refine .cons ?_ (kv_map hv t)
    rw [← h.1]
    by_cases e : p.1 = k
    · rw [if_pos e, if_pos e]
      exact ⟨rfl, hv⟩
    · rw [if_neg e, if_neg e]
      exact h
theorem kv_app {K : PySem.W.Frag} {H : Hp} {k : Key} {v : V} {d : D} (hv : Dp K H v d) : ∀ {kvs : List (Key × V)} {kds : List (Key × D)}, KvOk K H kvs kds → KvOk K H (kvs ++ [(k, v)]) (kds ++ [(k, d)])
  | _, _, .nil => .cons ⟨rfl, hv⟩ .nil
  | _, _, .cons h t => .cons h (kv_app hv t)
theorem kv_put {K : PySem.W.Frag} {H : Hp} {k : Key} {v : V} {d : D} {kvs : List (Key × V)} {kds : List (Key × D)} (h : KvOk K H kvs kds) (hv : Dp K H v d) : KvOk K H (putK kvs k v) (putD kds k d) := by
  unfold putK putD
  rw [kv_any h]
  split
  · exact kv_map hv h
  · exact kv_app hv h
theorem kv_merge {K : PySem.W.Frag} {H : Hp} : ∀ {more : List (Key × V)} {mds : List (Key × D)} {kvs : List (Key × V)} {kds : List (Key × D)}, KvOk K H more mds → KvOk K H kvs kds → KvOk K H (mergeK kvs more) (mergeD kds mds)
  | _, _, _, _, .nil, h => h
  | _, _, _, _, .cons (a := p) (b := q) h1 t, h => by
    have e := h1.1
    show KvOk K H (mergeK (putK _ p.1 p.2) _) (mergeD (putD _ q.1 q.2) _)
    rw [e]
    exact kv_merge t (kv_put h h1.2)
theorem kv_len {K : PySem.W.Frag} {H : Hp} : ∀ {kvs : List (Key × V)} {kds : List (Key × D)}, KvOk K H kvs kds → kvs.length = kds.length
  | _, _, .nil => rfl
  | _, _, .cons h t => by rw [List.length_cons, List.length_cons, kv_len t]
theorem kv_keys {K : PySem.W.Frag} {H : Hp} : ∀ {kvs : List (Key × V)} {kds : List (Key × D)}, KvOk K H kvs kds → kvs.map (·.1) = kds.map (·.1)
  | _, _, .nil => rfl
  | _, _, .cons h t => by rw [List.map_cons, List.map_cons, kv_keys t, h.1]
def getD? (kds : List (Key × D)) (k : Key) : Option D := (kds.find? fun p => decide (p.1 = k)).map (·.2)
theorem kv_get {K : PySem.W.Frag} {H : Hp} {k : Key} : ∀ {kvs : List (Key × V)} {kds : List (Key × D)}, KvOk K H kvs kds → (∀ d, getD? kds k = some d → ∃ v, valV kvs k = some v ∧ Dp K H v d) ∧ (getD? kds k = none → valV kvs k = none)
  | _, _, .nil => ⟨fun _ h => (by cases h), fun _ => rfl⟩
  | _, _, .cons (a := p) (b := q) h t => by
    unfold getD? valV
    obtain ⟨i1, i2⟩ := kv_get (k := k) t
    rw [List.find?_cons, List.find?_cons, h.1]
    by_cases e : q.1 = k
    · simp only [e, decide_true]
      exact ⟨fun d hd => ⟨_, rfl, by cases hd; exact h.2⟩, fun hd => by cases hd⟩
    · simp only [e, decide_false]
      exact ⟨i1, i2⟩
section
variable {τ : Tn} {G : Gx} {cp : List Str} {N : List Str} {sc : Scope} {k : Nat} {X : Cx} {e e2 : Expr} {tv tw : UV} {te : UE} {pos p2 p3 apos : Pos} {x : Str}
/-- {} -/
def eDic0 : UE := fun _ C => C (.dic [])
theorem je_dic0 : JE τ X (.Dict [] [] pos) eDic0 := fun ρ C c H0 γ σ H r Q q =>
  wpE_of pe_dnewK fun p hp => q (.dic []) (.ref p) _ c (.new hp) ⟨p, [], rfl, hp, upd_same, .nil⟩
/-- x[k] = v -/
def sDPutD (i : Nat) (tk tv : UV) : US := fun E ρ => match ρ[i]? with
  | some (.dic kds) => tv ρ fun d => tk ρ fun dk => ∃ k, keyD dk = some k ∧ kds.length < 1000000 ∧ E.nx (ρ.set i (.dic (putD kds k d)))
  | _ => False
theorem js_dput (S : Ok cp G N sc k X) (i : Nat) (hk : JD τ X e tw) (hv : JD τ X e2 tv) (hN : N[i]? = some x := by rfl) (hvis : Vis sc x := by first | exact Or.inl rfl | exact Or.inr (Or.inl rfl) | exact Or.inr (Or.inr rfl)) (hd : (x == ("__debug__" : Str)) = false := by decide) (hcd : (x == ("__classdict__" : Str)) = false := by decide)
    (hs : swapsWith e2 (some (.Subscript (.Name x p2) e p3)) pos.line X.env = pure false := by rfl) :
    JS τ X (.Assign [.Subscript (.Name x p2) e p3] e2 pos) (sDPutD i tw tv) := fun ρ E c H0 γ σ H r Dn d => by
  refine wpS_of (ps_dput (by have := S.room.un; omega) (pe_var (i := i) (by rw [S.eN]; exact hN) (by rw [S.es]; exact hvis) hd hcd) pe_w pe_w hs) ?_
  unfold sDPutD at c
  split at c
  · rename_i kds hi
    obtain ⟨p, kvs, e0, h0, hn, h, h'⟩ := r.sl i _ hi
    refine hv ρ _ c H0 γ σ H r _ fun d1 v1 H1 c e1 b1 => ⟨_, e0, ?_⟩
    refine hk ρ _ c H0 γ σ H1 (r.after e1) _ fun d2 v2 H2 c e2 b2 => ?_
    obtain ⟨kk, hkk, hl, c⟩ := c
    have e12 := e1.trans e2
    have hp := e12.kp p _ h hn
    have b1' := dp_after e2 b1
    have h2 := KvOk.same (res_ext e12 fun _ => own_ad) h'
    refine ⟨p, _, rfl, ?_, d.nx _ _ _ c ((r.after e12).change hi rfl rfl e0 hn h0 ⟨p, _, rfl, h0, hn, upd_same, kv_put h2 b1'⟩)⟩
    rw [dp_key b2 hkk]
    exact DPut.k hp (by rw [kv_len h']; exact slice_line (by omega))
  · exact c.elim
/-- x.update(a new dict) -/
theorem putK_lenD {kvs : List (Key × V)} {k : Key} {v : V} : (putK kvs k v).length ≤ kvs.length + 1 := length_putK kvs k v
theorem mergeK_lenD : ∀ {more kvs : List (Key × V)}, (mergeK kvs more).length ≤ kvs.length + more.length
  | [], kvs => Nat.le_refl _
  | p :: more, kvs => by
    have h1 := mergeK_lenD (more := more) (kvs := putK kvs p.1 p.2)
    have h2 := putK_lenD (kvs := kvs) (k := p.1) (v := p.2)
    have e : mergeK kvs (p :: more) = mergeK (putK kvs p.1 p.2) more := rfl
    rw [e, List.length_cons]
    omega
def rUpdD : V → List V → Hp → VK → Prop := fun x xs H Q => ∃ (a b : Addr) (kvs more : List (Key × V)), x = .ref a ∧ xs = [.ref b] ∧ a ≠ b ∧ H a = some (.dK kvs) ∧ H b = some (.dK more) ∧ kvs.length + more.length ≤ sizeLine ∧ Q .non (upd H a (.dK (mergeK kvs more)))
theorem mt_updD {X : Cx} : MtR X "dict.update" rUpdD := by
  intro pins s σ H x xs v us Q I rx rv h
  obtain ⟨a, b, kvs, more, rfl, rfl, ne, ha, hb, hl, q⟩ := h
  obtain rfl : v = Value.ref a := rx
  cases rv with
  | cons rb rn =>
    cases rn
    rename_i u
    obtain rfl : u = Value.ref b := rb
    obtain ⟨z, hd, vs, rel, dd⟩ := dk_of I.hok ha
    obtain ⟨z', hd', ws, rel', dd'⟩ := dk_of I.hok hb
    refine call_meetsIn PySem.F.slot_dict_update dd.typeIs PySem.F.entry_dict_update (PySem.F.args_dict_update_2 _ _) (meets_dict_update (mixKind X.prog X.w) a b ne hd') ⟨vs, ws, dd, dd', by rw [← rel.length, ← rel'.length]; exact hl, fun h' m1 _ sb => ?_⟩
    have he : ∃ q, h'.get? a = some q := let ⟨q, _, _, hq, _⟩ := m1; ⟨q, hq⟩
    exact ⟨.non, _, d_write (t' := s.toks) I (by rw [ha]; exact True.intro) sb he (dk_new (Nat.le_trans mergeK_lenD hl) hd (KV.merge rel' rel) m1), rfl, q⟩
def sDUpd (i : Nat) (te : UE) : US := fun E ρ => match ρ[i]? with
  | some (.dic kds) => te ρ fun r => match r with
    | .dic more => kds.length + more.length ≤ 1000000 ∧ E.nx (ρ.set i (.dic (mergeD kds more)))
    | _ => False
  | _ => False
theorem js_dupd (S : Ok cp G N sc k X) (i : Nat) (he : JE τ X e te) (hN : N[i]? = some x := by rfl) (hv : Vis sc x := by first | exact Or.inl rfl | exact Or.inr (Or.inl rfl) | exact Or.inr (Or.inr rfl)) (hd : (x == ("__debug__" : Str)) = false := by decide) (hcd : (x == ("__classdict__" : Str)) = false := by decide)
    (hfew : ((backTo p3 (starEach [e] X.env)).all (fun x => !x.1) && (backToKw p3 (keywordEach [] X.env)).all (fun x => x.1.isSome) && decide ([e].length + ([] : List Keyword).length + (if ([] : List Keyword).isEmpty then 0 else 1) < 30)) = true := by rfl)
    (hline : (apos.endLine == p3.line) = true := by rfl) (hst : starEach [e] X.env = (false, eval e X.env) :: starEach [] X.env := by rfl) :
    JS τ X (.Expr (.Call (.Attribute (.Name x p2) "update" apos) [e] [] p3) pos) (sDUpd i te) := fun ρ E c H0 γ σ H r Dn d => by
  refine wpS_of (ps_expr (pe_bm PySem.F.plainAttrs_dict PySem.F.slot_dict_update PySem.F.type_dict_update mt_updD (pe_var (i := i) (by rw [S.eN]; exact hN) (by rw [S.es]; exact hv) hd hcd) (pa_cons pe_w pa_nil hst) rfl hfew hline hst rfl)) ?_
  unfold sDUpd at c
  split at c
  · rename_i kds hi
    obtain ⟨p, kvs, e0, h0, hn, h, h'⟩ := r.sl i _ hi
    refine ⟨_, e0, .inr (.inr (.inl ⟨rfl, .inl ⟨_, h⟩⟩)), he ρ _ c H0 γ σ H r _ fun rs v H2 c e1 h1 => ?_⟩
    cases rs with
    | dat _ => exact c.elim
    | lst _ => exact c.elim
    | th _ => exact c.elim
    | dll _ => exact c.elim
    | dic more =>
      obtain ⟨q, ws, rfl, hq, hq2, ha⟩ := h1
      have hp := e1.kp p _ h hn
      have ne : p ≠ q := fun z => by rw [z, hq] at h; cases h
      refine ⟨p, q, kvs, ws, rfl, rfl, ne, hp, hq2, ?_, d.nx _ _ _ c.2 ?_⟩
      · rw [kv_len h', kv_len ha]; exact small_line c.1
      · exact (r.after e1).change hi rfl rfl e0 hn h0 ⟨p, _, rfl, h0, hn, upd_same, kv_merge (KvOk.same (res_mono fun b o n eb => ⟨fun z => n (.inl z), eb⟩) ha) (KvOk.same (res_ext e1 fun _ => own_ad) h')⟩
  · exact c.elim
/-! dict(a list of pairs) -/
def pairK : D → Option (Key × D)
  | .tuple [a, b] => (keyD a).map fun k => (k, b)
  | _ => none
def pairsK : List D → Option (List (Key × D))
  | [] => some []
  | d :: ds => match pairK d, pairsK ds with
    | some p, some ps => some (p :: ps)
    | _, _ => none
theorem pairsK_dp {K : PySem.W.Frag} {H H' : Hp} (hs : Same H H') : ∀ {ds : List D} {kds : List (Key × D)} {ws : List V}, pairsK ds = some kds → DpAll K H ws ds → ∃ (ps : List Addr) (kvs : List (Key × V)), ws = ps.map V.ref ∧ Paired (fun p kv => SqT K H' p [kV kv.1, kv.2]) ps kvs ∧ KvOk K H kvs kds
  | [], kds, ws, e, h => by
    cases e
    cases h
    exact ⟨[], [], rfl, .nil, .nil⟩
  | d :: ds, kds, ws, e, h => by
    unfold pairsK at e
    split at e
    · rename_i p ps e1 e2
      cases e
      cases h with
      | cons h1 h2 =>
        obtain ⟨as, kvs, rfl, hp, hk⟩ := pairsK_dp hs e2 h2
        unfold pairK at e1
        split at e1
        · rename_i a b
          cases ek : keyD a with
          | none => rw [ek] at e1; cases e1
          | some k =>
            rw [ek] at e1
            cases e1
            cases h1 with
            | tup hs1 ha =>
              rename_i q vs
              cases ha with
              | cons g1 g2 =>
                cases g2 with
                | cons g2 g3 =>
                  cases g3
                  rename_i v1 v2
                  have e5 := dp_key g1 ek
                  subst e5
                  exact ⟨q :: as, (k, v2) :: kvs, rfl, .cons (sqT_same hs hs1) hp, .cons ⟨rfl, g2⟩ hk⟩
        · cases e1
    · cases e
def fDictP : List D → (Rs → Prop) → Prop
  | [.list ds], C => ∃ kds, pairsK ds = some kds ∧ C (.dic (mergeD [] kds))
  | _, _ => False
theorem fDictP_ok : Cb X (fun xs H Q => ∃ (a : Addr) (ps : List Addr) (kvs : List (Key × V)), xs = [.ref a] ∧ SqL X.K H a (ps.map V.ref) ∧ Paired (fun p kv => SqT X.K H p [kV kv.1, kv.2]) ps kvs ∧ ∀ p, H p = none → Q (.ref p) (upd H p (.dK (mergeK [] kvs)))) fDictP := fun τ H0 H γ σ ρ vs ds C r b f Q q => by
  unfold fDictP at f
  split at f
  · obtain ⟨v, rfl, p, ws, rfl, hs, ha⟩ := paired1 b
    obtain ⟨kds, h1, h2⟩ := f
    obtain ⟨ps, kvs, rfl, hp, hk⟩ := pairsK_dp res_le h1 ha
    refine ⟨p, ps, kvs, rfl, sqL_same res_le hs, hp, fun l hl => q _ _ _ h2 (.new hl) ⟨l, _, rfl, hl, upd_same, KvOk.same (res_mono fun a o n ea => ?_) (kv_merge hk .nil)⟩⟩
    have hne : a ≠ l := ne_of_none ea hl
    exact ⟨fun z => z.elim n hne, by rw [upd_ne hne]; exact ea⟩
  · exact f.elim
/-! sorted(x), x a dict of one's own with ints for keys -/
def eSortK (i : Nat) : UE := fun ρ C => match ρ[i]? with
  | some (.dic kds) => ∃ ks : List Int, kds.map (·.1) = ks.map Sum.inl ∧ ks.length < 64 ∧ ∀ ys : List Int, ys.Perm ks → ys.Pairwise (· ≤ ·) → C (.lst (ys.map PyData.int))
  | _ => False
theorem je_sortK (S : Ok cp G N sc k X) (i : Nat) (hm : Free G "sorted") (hN : N[i]? = some x := by rfl) (hvis : Vis sc x := by first | exact Or.inl rfl | exact Or.inr (Or.inl rfl) | exact Or.inr (Or.inr rfl)) (hd : (x == ("__debug__" : Str)) = false := by decide) (hcd : (x == ("__classdict__" : Str)) = false := by decide)
    (hg : sc.names.lookup ("sorted" : Str) = some .globalImplicit := by rfl) : JE τ X (.Call (.Name "sorted" p2) [.Name x p3] [] pos) (eSortK i) := fun ρ C c H0 γ σ H r Q q => by
  refine wpE_of (pe_callB (call_sortedDI S.calm) (by show X.env.scope.names.lookup ("sorted" : Str) = _; rw [S.es]; exact hg) (by rw [S.em]; exact hm) (by decide +kernel : bootBuiltins "sorted" = some (.builtin "sorted")) (pa_cons (pe_var (i := i) (by rw [S.eN]; exact hN) (by rw [S.es]; exact hvis) hd hcd) pa_nil (by rfl)) (by decide) (by decide) (by rfl) (by rfl)) ?_
  unfold eSortK at c
  split at c
  · rename_i kds hi
    obtain ⟨p, kvs, e0, h0, hn, h, h'⟩ := r.sl i _ hi
    obtain ⟨ks, h1, h2, h3⟩ := c
    exact ⟨_, e0, p, kvs, ks, rfl, .inl h, (kv_keys h').trans h1, h2, fun ys l y1 y2 hl => q _ _ _ (h3 ys y1 y2) (.new hl) (new_lst r hl (dp_ints ys))⟩
  · exact c.elim
/-! x[k], x a dict of one's own -/
def dDGet (i : Nat) (tk : UV) : UV := fun ρ C => match ρ[i]? with
  | some (.dic kds) => tk ρ fun dk => ∃ k d, keyD dk = some k ∧ getD? kds k = some d ∧ C d
  | _ => False
theorem jd_dget (S : Ok cp G N sc k X) (i : Nat) (hk : JD τ X e tw) (hN : N[i]? = some x := by rfl) (hvis : Vis sc x := by first | exact Or.inl rfl | exact Or.inr (Or.inl rfl) | exact Or.inr (Or.inr rfl)) (hd : (x == ("__debug__" : Str)) = false := by decide) (hcd : (x == ("__classdict__" : Str)) = false := by decide)
    (hs : NoSl e := by exact fun _ _ => rfl) : JD τ X (.Subscript (.Name x p2) e pos) (dDGet i tw) := fun ρ C c H0 γ σ H r Q q => by
  refine wpE_of (pe_dget (by have := S.room.un; omega) (pe_var (i := i) (by rw [S.eN]; exact hN) (by rw [S.es]; exact hvis) hd hcd) pe_w hs) ?_
  unfold dDGet at c
  split at c
  · rename_i kds hi
    obtain ⟨p, kvs, e0, h0, hn, h, h'⟩ := r.sl i _ hi
    refine ⟨_, e0, hk ρ _ c H0 γ σ H r _ fun d2 v2 H2 c e2 b2 => ?_⟩
    obtain ⟨kk, dd, hkk, hg, c⟩ := c
    have hp := e2.kp p _ h hn
    have h2 := KvOk.same (res_ext e2 fun _ => own_ad) h'
    obtain ⟨v, hv1, hv2⟩ := (kv_get (k := kk) h2).1 dd hg
    refine ⟨p, v, rfl, ?_, q _ _ _ c e2 hv2⟩
    rw [dp_key b2 hkk, ← hv1]
    exact DGet.k hp
  · exact c.elim
end
/-! what is never reached -/
def eNo : UE := fun _ _ => False
theorem je_no {τ : Tn} {X : Cx} {e : Expr} : JE τ X e eNo := fun _ _ c => c.elim
/-! range(a, b, -1) -/
def dnD (lo : Int) (n : Nat) : List D := (List.range n).map fun (i : Nat) => .int (lo - (i : Int))
theorem dnD_len {lo : Int} {n : Nat} : (dnD lo n).length = n := by
  unfold dnD
  rw [List.length_map, List.length_range]
theorem itOk_dn {K : PySem.W.Frag} {τ : Tn} {lo : Int} {n : Nat} : ItOk K τ (Itc lo (-1) n) [] (dnD lo n) where
  go := fun H ow g i hi => by rw [dnD_len] at hi; exact hi
  yld := fun H ow g hr i d hd x H' y => by
    obtain ⟨rfl, rfl⟩ := y
    unfold dnD at hd
    rw [List.getElem?_map] at hd
    by_cases hi : i < n
    · rw [List.getElem?_range hi] at hd
      cases hd
      refine ⟨Same.refl _, ?_⟩
      have e : lo + (i : Int) * (-1) = lo - (i : Int) := by omega
      rw [e]
      exact .int _
    · rw [List.getElem?_eq_none (by rw [List.length_range]; omega)] at hd
      cases hd
  stop := fun H ow g i hi => by rw [dnD_len] at hi; exact hi
section
variable {τ : Tn} {G : Gx} {cp : List Str} {N : List Str} {sc : Scope} {k : Nat} {X : Cx} {e e2 tg : Expr} {tv tw : UV} {pos p : Pos}
def iRangeN (tv tw : UV) : UL := fun ρ C => tv ρ fun d => tw ρ fun d2 => ∃ m n, d = .int m ∧ d2 = .int n ∧ m - n ≤ 1000000 ∧ -1000000000000 ≤ m ∧ m ≤ 1000000000000 ∧ -1000000000000 ≤ n ∧ n ≤ 1000000000000 ∧ C (dnD m (m - n).toNat)
theorem ji_rangeN {j : Nat} {p1 p2 : Pos} (S : Ok cp G N sc k X) (hm : Free G "range") (he : JV τ X e tv) (he2 : JV τ X e2 tw) (hg : sc.names.lookup ("range" : Str) = some .globalImplicit := by rfl) (hs : starEach [e, e2, (.UnaryOp .USub (.Constant (.int 1) j p1) p2)] X.env = (false, eval e X.env) :: starEach [e2, (.UnaryOp .USub (.Constant (.int 1) j p1) p2)] X.env := by rfl)
    (hs2 : starEach [e2, (.UnaryOp .USub (.Constant (.int 1) j p1) p2)] X.env = (false, eval e2 X.env) :: starEach [(.UnaryOp .USub (.Constant (.int 1) j p1) p2)] X.env := by rfl) (hpl : (backTo pos (starEach [e2, (.UnaryOp .USub (.Constant (.int 1) j p1) p2)] X.env)).any (·.1) = false := by rfl) :
    JI τ X tg (.Call (.Name "range" p) [e, e2, (.UnaryOp .USub (.Constant (.int 1) j p1) p2)] [] pos) (iRangeN tv tw) := fun ρ C c H0 γ σ H r R q =>
  wpI_of (pi_range3 (by show X.env.scope.names.lookup _ = _; rw [S.es]; exact hg) (by rw [S.em]; exact hm) (pa_cons pe_w (pa_cons pe_w (pa_cons (pe_un un_neg pe_int) pa_nil (by rfl)) hs2) hs) hs hpl) (he ρ _ c H0 γ σ H r _ fun d v H2 c e1 h => he2 ρ _ c H0 γ σ H2 (r.after e1) _ fun d2 v2 H3 c e2 h2 => by
    obtain ⟨m, n, rfl, rfl, h3, h4, h5, h6, h7, c⟩ := c
    cases h; cases h2
    obtain ⟨a1, b1⟩ := pow62 (n := m) (by omega) (by omega)
    obtain ⟨a2, b2⟩ := pow62 (n := n) (by omega) (by omega)
    exact ⟨1, rfl, m, n, -1, (m - n).toNat, rfl, RgC.neg a1 b1 a2 b2, q _ [] _ H3 c (e1.trans e2) (fun p hp => by cases hp) itOk_dn (by rw [dnD_len]; exact small_line (by omega))⟩)
end
/-! lemmas for the math -/
section
variable {ρ : En} {R : Rs → Prop} {C : D → Prop} {E : Ed} {i : Nat} {tv tw : UV} {te : UE} {kds : List (Key × D)} {ds : List D}
def kSl : Option Sl → (List (Key × D) → Prop) → Prop
  | some (.dic kds), C => C kds
  | _, _ => False
theorem kSl_d {C : List (Key × D) → Prop} : kSl (some (.dic kds)) C = C kds := rfl
def kRs : Rs → (List (Key × D) → Prop) → Prop
  | .dic kds, C => C kds
  | _, _ => False
theorem kRs_d {C : List (Key × D) → Prop} : kRs (.dic kds) C = C kds := rfl
theorem c_eNo : eNo ρ R = False := rfl
theorem c_eDic0 : eDic0 ρ R = R (.dic []) := propext Iff.rfl
theorem c_sDPutD : sDPutD i tw tv E ρ = kSl ρ[i]? fun kds => tv ρ fun d => tw ρ fun dk => ∃ k, keyD dk = some k ∧ kds.length < 1000000 ∧ E.nx (ρ.set i (.dic (putD kds k d))) := by
  unfold sDPutD
  cases ρ[i]? with
  | none => rfl
  | some s => cases s <;> rfl
theorem c_sDUpd : sDUpd i te E ρ = kSl ρ[i]? fun kds => te ρ fun r => kRs r fun more => kds.length + more.length ≤ 1000000 ∧ E.nx (ρ.set i (.dic (mergeD kds more))) := by
  unfold sDUpd
  cases ρ[i]? with
  | none => rfl
  | some s =>
    cases s with
    | dic kds =>
      show te ρ _ = te ρ _
      congr 1
      funext r
      cases r <;> rfl
    | un => rfl
    | dat d => rfl
    | lst ds => rfl
    | town => rfl
    | ldc kds => rfl
    | dtc kds => rfl
    | th _ => rfl
    | tv _ => rfl
    | tl _ => rfl
    | dls _ => rfl
theorem c_eSortK : eSortK i ρ R = kSl ρ[i]? fun kds => ∃ ks : List Int, kds.map (·.1) = ks.map Sum.inl ∧ ks.length < 64 ∧ ∀ ys : List Int, ys.Perm ks → ys.Pairwise (· ≤ ·) → R (.lst (ys.map PyData.int)) := by
  unfold eSortK
  cases ρ[i]? with
  | none => rfl
  | some s => cases s <;> rfl
theorem c_dDGet : dDGet i tw ρ C = kSl ρ[i]? fun kds => tw ρ fun dk => ∃ k d, keyD dk = some k ∧ getD? kds k = some d ∧ C d := by
  unfold dDGet
  cases ρ[i]? with
  | none => rfl
  | some s => cases s <;> rfl
theorem q_dictp : fDictP [.list ds] R = ∃ kds, pairsK ds = some kds ∧ R (.dic (mergeD [] kds)) := rfl
theorem c_iRangeN {C : List D → Prop} : iRangeN tv tw ρ C = tv ρ fun d => tw ρ fun d2 => ∃ m n, d = .int m ∧ d2 = .int n ∧ m - n ≤ 1000000 ∧ -1000000000000 ≤ m ∧ m ≤ 1000000000000 ∧ -1000000000000 ≤ n ∧ n ≤ 1000000000000 ∧ C (dnD m (m - n).toNat) := propext Iff.rfl
theorem sl_dic : Rs.sl (.dic kds) = .dic kds := rfl
end
end Pu
/-! ### {k: v for ..}, {k: v, ..}[x] -/
namespace Pu
open PySem PySem.Spec PyProof.Rows L2 PySem.W
section
variable {X : Cx} {pins : List (Addr × Obj)} {σ : St} {H : Hp} {s : Shared} {p : Addr} {kvs : List (Key × V)}
theorem inv_untrackD (I : Inv X pins σ H s) (h : H p = some (.dK kvs)) : ∃ o, s.heap.get? p = some o ∧ Inv X ((p, o) :: pins) σ (unT H p) s := by
  obtain ⟨hz, hm, vs, kv, o, es, ep, ho, hex, hdat, hrest⟩ := I.hok p _ h
  refine ⟨_, ho, I.ok, I.os, I.bare, ⟨I.base.keep, I.base.slot, fun b o e n hx => ?_, I.base.there, fun b ys e => ?_, fun b o u e => ?_, fun b ps e => ?_⟩, I.loc, I.cell, ?_, fun x c e => ?_, fun q hq => ?_, fun b u e => ?_, I.len⟩
  · by_cases hb : b = p
    · subst hb; exact unT_same
    · rw [unT_ne hb]; exact I.base.free b o e n hx
  · have e' := I.base.tups b ys e
    have hb : b ≠ p := fun z => by rw [z, h] at e'; cases e'
    rw [unT_ne hb]; exact e'
  · have e' := I.base.frzs b o u e
    have hb : b ≠ p := fun z => by rw [z, h] at e'; cases e'
    rw [unT_ne hb]; exact e'
  · obtain ⟨m, e'⟩ := I.base.tbls b ps e
    have hb : b ≠ p := fun z => by rw [z, h] at e'; cases e'
    exact ⟨m, by rw [unT_ne hb]; exact e'⟩
  · by_cases hb : X.env.locals = p
    · rw [hb]; exact unT_same
    · rw [unT_ne hb]; exact I.free
  · by_cases hb : c = p
    · rw [hb]; exact unT_same
    · rw [unT_ne hb]; exact I.freeC x c e
  · have old : q ∈ X.pn ++ pins → s.heap.get? q.1 = some q.2 ∧ unT H p q.1 = none ∧ q.1 ≠ X.env.locals ∧ q.1 ∉ X.fs ∧ ∀ v, q.2.data ≠ .cell v := fun hq => by
      obtain ⟨a1, a2, a3, a4, a5⟩ := I.pin q hq
      refine ⟨a1, ?_, a3, a4, a5⟩
      by_cases hb : q.1 = p
      · rw [hb]; exact unT_same
      · rw [unT_ne hb]; exact a2
    rcases List.mem_append.mp hq with hq | hq
    · exact old (List.mem_append_left _ hq)
    · rcases List.mem_cons.mp hq with rfl | hq
      · refine ⟨ho, unT_same, fun z => ?_, fun z => ?_, fun v q => by rw [hdat] at q; cases q⟩
        · have f := I.free
          rw [← z] at f
          rw [f] at h; cases h
        · obtain ⟨_, o, ho', _⟩ := I.ok.funs.mem z
          have f := I.base.free p o ho' (I.ok.frf p z) fun y => I.ok.exfs p y z
          rw [f] at h; cases h
      · exact old (List.mem_append_right _ hq)
  · have e' := unT_le b u e
    refine (I.hok b u e').stay (fun _ _ _ q => q) (fun c q => ?_) fun c ys q => ?_
    · have hc : c ≠ p := fun z => by rw [z, h] at q; cases q
      rw [unT_ne hc]; exact q
    · have hc : c ≠ p := fun z => by rw [z, h] at q; cases q
      rw [unT_ne hc]; exact q
theorem inv_retrackD {σ' : St} {H2 : Hp} {s2 : Shared} {o : Obj} (I : Inv X pins σ H s) (h : H p = some (.dK kvs)) (ho : s.heap.get? p = some o) (I2 : Inv X ((p, o) :: pins) σ' H2 s2) : H2 p = none ∧ Inv X pins σ' (upd H2 p (.dK kvs)) s2 := by
  obtain ⟨g1, g2, g3, g4, g5⟩ := I2.pin (p, o) (List.mem_append_right _ (List.mem_cons_self ..))
  simp only at g1 g2 g3 g4
  obtain ⟨hz, hm, vs, kv, o', es, ep, ho', hex, hdat, hrest⟩ := I.hok p _ h
  rw [ho] at ho'
  cases ho'
  refine ⟨g2, I2.ok, I2.os, I2.bare, ⟨I2.base.keep, I2.base.slot, fun b o e n hx => ?_, I2.base.there, fun b ys e => ?_, fun b o u e => ?_, fun b ps e => ?_⟩, I2.loc, I2.cell, ?_, fun x c e => ?_, fun q hq => ?_, fun b u e => ?_, I2.len⟩
  · have hb : b ≠ p := fun z => by
      rw [z] at e n hx
      rw [I.base.free p o e n hx] at h; cases h
    rw [upd_ne hb]; exact I2.base.free b o e n hx
  · have hb : b ≠ p := fun z => by
      rw [z] at e
      rw [I.base.tups p ys e] at h; cases h
    rw [upd_ne hb]; exact I2.base.tups b ys e
  · have hb : b ≠ p := fun z => by
      rw [z] at e
      rw [I.base.frzs p o u e] at h; cases h
    rw [upd_ne hb]; exact I2.base.frzs b o u e
  · have hb : b ≠ p := fun z => by
      rw [z] at e
      obtain ⟨m, e'⟩ := I.base.tbls p ps e
      rw [e'] at h; cases h
    rw [upd_ne hb]; exact I2.base.tbls b ps e
  · rw [upd_ne (fun z => g3 z.symm)]; exact I2.free
  · have hb : c ≠ p := fun z => by
      have f := I.freeC x c e
      rw [z, h] at f; cases f
    rw [upd_ne hb]; exact I2.freeC x c e
  · obtain ⟨a1, a2, a3, a4, a5⟩ := I2.pin q (by
      rcases List.mem_append.mp hq with hq | hq
      · exact List.mem_append_left _ hq
      · exact List.mem_append_right _ (List.mem_cons_of_mem _ hq))
    have hb : q.1 ≠ p := fun z => by
      have f := (I.pin q hq).2.1
      rw [z, h] at f; cases f
    exact ⟨a1, by rw [upd_ne hb]; exact a2, a3, a4, a5⟩
  · by_cases hb : b = p
    · subst hb
      rw [upd_same] at e
      cases e
      exact ⟨hz, hm, vs, kv, _, es, ep, g1, hex, hdat, hrest⟩
    · rw [upd_ne hb] at e
      refine (I2.hok b u e).stay (fun _ _ _ q => q) (fun c q => ?_) fun c ys q => ?_
      · have hc : c ≠ p := fun z => by rw [z, g2] at q; cases q
        rw [upd_ne hc]; exact q
      · have hc : c ≠ p := fun z => by rw [z, g2] at q; cases q
        rw [upd_ne hc]; exact q
end
section
variable {X : Cx} {σ : St} {H : Hp} {p : Addr} {kvs : List (Key × V)} {e tg : Expr}
theorem wpE_hideD {Q Q' : VK} (h : H p = some (.dK kvs)) (q : wpE X e σ (unT H p) Q') (k : ∀ v H2, H2 p = none → Q' v H2 → Q v (upd H2 p (.dK kvs))) : wpE X e σ H Q := by
  unfold wpE at q ⊢
  intro pins s I
  obtain ⟨o, ho, I'⟩ := inv_untrackD I h
  refine thn (q _ s I') fun u s2 ⟨v, H2, I2, rv, qq⟩ => ?_
  obtain ⟨hn, I3⟩ := inv_retrackD I h ho I2
  exact ⟨v, _, I3, rv, k v H2 hn qq⟩
theorem wpG_hideD {v : V} {Q Q' : St → Hp → Prop} (h : H p = some (.dK kvs)) (q : wpG X tg v σ (unT H p) Q') (k : ∀ σ2 H2, H2 p = none → Q' σ2 H2 → Q σ2 (upd H2 p (.dK kvs))) : wpG X tg v σ H Q := by
  unfold wpG at q ⊢
  intro pins s u I rv
  obtain ⟨o, ho, I'⟩ := inv_untrackD I h
  refine thn (q _ s u I' rv) fun u s2 ⟨σ2, H2, I2, qq⟩ => ?_
  obtain ⟨hn, I3⟩ := inv_retrackD I h ho I2
  exact ⟨σ2, _, I3, k σ2 H2 hn qq⟩
end
theorem wpT_hideD {X : Cx} {σ : St} {H : Hp} {p : Addr} {kvs : List (Key × V)} {e : Expr} {Q Q' : Bool → Hp → Prop} (h : H p = some (.dK kvs)) (q : wpT X e σ (unT H p) Q') (k : ∀ b H2, H2 p = none → Q' b H2 → Q b (upd H2 p (.dK kvs))) : wpT X e σ H Q := by
  unfold wpT at q ⊢
  intro pins s I
  obtain ⟨o, ho, I'⟩ := inv_untrackD I h
  refine thn (q _ s I') fun b s2 ⟨H2, I2, qq⟩ => ?_
  obtain ⟨hn, I3⟩ := inv_retrackD I h ho I2
  exact ⟨_, I3, k b H2 hn qq⟩
section
variable {τ : Tn} {G : Gx} {cp : List Str} {N : List Str} {sc scope : Scope} {k : Nat} {X : Cx} {tg iter kx elt : Expr} {ifs : List Expr} {g : UG} {tt : UT} {tk te : UV} {ti : UL} {pos : Pos}
def dcC (g : UG) (tt : UT) (tk te : UV) (C : List (Key × D) → Prop) (ρ : En) : List D → List (Key × D) → Prop
  | [], acc => C acc
  | d :: ds, acc => g d ρ fun ρ2 => tt ρ2 fun z => (z = true → tk ρ2 fun dk => te ρ2 fun y => ∃ k, keyD dk = some k ∧ dcC g tt tk te C ρ ds (putD acc k y)) ∧ (z = false → dcC g tt tk te C ρ ds acc)
def eDc (ti : UL) (g : UG) (tt : UT) (tk te : UV) (vs : List Nat) : UE := fun ρ C => noOwn ρ vs ∧ ti ρ fun ds => dcC g tt tk te (fun acc => C (.dic acc)) (wipeS ρ vs) ds []
theorem dc_read (own_ : List (Str × Nat)) (S : Ok cp G N sc k X) (hi : JIx τ X tg iter ti) (hg : ∀ X', Ok (capt scope) G N (relS scope sc) k X' → JGc (own_.map (·.2)) τ X' tg g) (ht : ∀ X', Ok (capt scope) G N (relS scope sc) k X' → JTs τ X' ifs tt) (hkx : ∀ X', Ok (capt scope) G N (relS scope sc) k X' → JD τ X' kx tk) (he : ∀ X', Ok (capt scope) G N (relS scope sc) k X' → JD τ X' elt te)
    (ok : BlkOk N sc scope own_) (ρ : En) (C : Rs → Prop) (c : eDc ti g tt tk te (own_.map (·.2)) ρ C) (H0 : Hp) (γ : List (V × D)) (σ : St) (H : Hp) (r : Rep X.K τ H0 γ H σ ρ) (Q : VK)
    (q : ∀ r v H2, C r → Ext τ H H2 → RsOk X.K τ H H2 σ ρ v r → Q v H2) : tDc (wpI X tg iter) (wgB X scope tg) (wtB X scope ifs) (weB X scope kx) (weB X scope elt) (own_.map (·.2)) σ H Q := by
  obtain ⟨hno, c⟩ := c
  have hkd := ok.kind
  refine hi ρ _ c H0 γ σ H r _ fun J γ' ds H1 c e1 hγ hJ hlen D hD => ?_
  have R1 := r.after e1
  have nownD : ¬ own τ σ ρ D := R1.notOwn hD
  refine ⟨fun i m H' => m = ds.length - i ∧ ∃ acc ws, H' D = some (.dK ws) ∧ Ext τ H1 (unT H' D) ∧ KvOk X.K (res (unT H' D) (own τ σ ρ)) ws acc ∧ acc.length ≤ i ∧ dcC g tt tk te (fun acc => C (.dic acc)) (wipeS ρ (own_.map (·.2))) (ds.drop i) acc, ⟨_, rfl, [], [], upd_same, ?_, .nil, Nat.le_refl _, c⟩, fun i m H' ⟨hm, acc, ws, h1, h2, h3, h4, c⟩ => ?_⟩
  · rw [unT_upd hD]; exact .refl
  have R2 := R1.after h2
  have bo : ∀ p ∈ γ', Bo X.K τ H' (res H' (fun b => own τ σ ρ b ∨ b = D)) p.1 p.2 := fun p hp => by
    have b := (hγ p hp).after h2
    have l1 : Same (res (unT H' D) τ.ad) (res H' τ.ad) := res_mono fun b o n e => ⟨n, unT_le b o e⟩
    have l2 : Same (res (unT H' D) (own τ σ ρ)) (res H' (fun b => own τ σ ρ b ∨ b = D)) := res_mono fun b o n e => by
      have hb : b ≠ D := fun z => by rw [z, unT_same] at e; cases e
      exact ⟨fun z => z.elim n hb, unT_le b o e⟩
    obtain ⟨v, d⟩ := p
    cases d with
    | list ds => obtain ⟨a, vs, e, hs, ha⟩ := b; exact ⟨a, vs, e, sqL_same l1 hs, dpAll_same l2 _ _ ha⟩
    | tuple ds => obtain ⟨a, vs, e, hs, ha⟩ := b; exact ⟨a, vs, e, sqT_same l1 hs, dpAll_same l2 _ _ ha⟩
    | none => exact b
    | bool _ => exact b
    | int _ => exact b
    | str _ => exact b
    | dict _ => exact b
  by_cases hlt : i < ds.length
  · rw [List.drop_eq_getElem_cons hlt, dcC] at c
    refine .inr ⟨hJ.go H' _ bo i hlt, fun H'' => ∃ acc ws, H'' D = some (.dK ws) ∧ Ext τ H1 (unT H'' D) ∧ KvOk X.K (res (unT H'' D) (own τ σ ρ)) ws acc ∧ acc.length ≤ i + 1 ∧ dcC g tt tk te (fun acc => C (.dic acc)) (wipeS ρ (own_.map (·.2))) (ds.drop (i + 1)) acc,
      fun H'' h => ⟨ds.length - (i + 1), by omega, rfl, h⟩, fun x H4 hy X' hX' => ?_⟩
    obtain ⟨sm, hdp⟩ := hJ.yld H' _ bo (fun a ha z => z.elim (fun z => by
      obtain ⟨o, e, _⟩ := R2.ownMut z
      rw [unT_le a o e] at ha; cases ha) fun z => by rw [z, h1] at ha; cases ha) i _ (List.getElem?_eq_getElem hlt) x H4 hy
    have h4D : H4 D = some (.dK ws) := sm D _ h1
    have smU : Same (unT H' D) (unT H4 D) := fun b o e => by
      have hb : b ≠ D := fun z => by rw [z, unT_same] at e; cases e
      rw [unT_ne hb] at e ⊢
      exact sm b o e
    have R4 := R2.after (.of_same smU)
    have dp4 : Dp X.K (res (unT H4 D) (own τ σ ρ)) x ds[i] := dp_same (res_mono fun b o n e => ⟨fun z => n (.inl z), by rw [unT_ne fun z => n (.inr z)]; exact e⟩) _ _ hdp
    have dpw4 := KvOk.same (res_ext (.of_same smU) fun _ => own_ad) h3
    have eK := isBlk_K hX'
    have SX' := isBlk_ok S hkd hX'
    refine wpG_hideD h4D (hg X' SX' _ (wipeS ρ (own_.map (·.2))) _ c (fun j hj s hs => ?_) H0 γ (wipe σ (own_.map (·.2))) (unT H4 D) x (by rw [eK]; exact R4.wiped hno) (by rw [eK, own_wipe_eq hno]; exact dp4) (fun σ2 H2 => H2 = unT H4 D ∧ ∃ ρ2, Rep X.K τ H0 γ (unT H4 D) σ2 ρ2 ∧ own τ σ2 ρ2 = own τ σ ρ ∧ wipe σ2 (own_.map (·.2)) = wipe σ (own_.map (·.2)) ∧ tt ρ2 fun z => (z = true → tk ρ2 fun dk => te ρ2 fun y => ∃ k, keyD dk = some k ∧ dcC g tt tk te (fun acc => C (.dic acc)) (wipeS ρ (own_.map (·.2))) (ds.drop (i + 1)) (putD acc k y)) ∧ (z = false → dcC g tt tk te (fun acc => C (.dic acc)) (wipeS ρ (own_.map (·.2))) (ds.drop (i + 1)) acc)) fun ρ2 σ2 c r2 no2 eo ew => ⟨rfl, ρ2, by rw [← eK]; exact r2, by rw [eo, own_wipe_eq hno], ?_, c⟩) fun σ2 H2 hn ⟨eH, ρ2, r2, eo, ew, c⟩ => ?_
    · rcases wipeS_get hs with rfl | ⟨q1, q2⟩
      · rfl
      · exact hno j hj s q1
    · rw [ew]
      apply List.ext_getElem?
      intro j
      by_cases hj : j ∈ own_.map (·.2)
      · rw [wipe_in hj, wipe_in hj, wipe_length]
      · simp only [wipe_out hj]
    · subst eH
      rw [upd_unT h4D]
      have ew' : wipe σ2 (own_.map (·.2)) = wipe σ (own_.map (·.2)) := ew
      refine ⟨ew', ?_⟩
      -- the tests
      have tests : ∀ (Q : Bool → Hp → Prop), (∀ z H5, H5 D = none → Ext τ (unT H4 D) H5 → ((z = true → tk ρ2 fun dk => te ρ2 fun y => ∃ k, keyD dk = some k ∧ dcC g tt tk te (fun acc => C (.dic acc)) (wipeS ρ (own_.map (·.2))) (ds.drop (i + 1)) (putD acc k y)) ∧ (z = false → dcC g tt tk te (fun acc => C (.dic acc)) (wipeS ρ (own_.map (·.2))) (ds.drop (i + 1)) acc)) → Q z (upd H5 D (.dK ws))) → wtB X scope ifs σ2 H4 Q := by
        intro Q k
        cases ifs with
        | nil =>
          have c1 := ht X' SX' ρ2 _ c
          have := k true (unT H4 D) unT_same .refl c1
          rw [upd_unT h4D] at this
          exact this
        | cons cc rr =>
          cases rr with
          | nil =>
            intro X2 hX2
            have eK2 := isBlk_K hX2
            have S2 := isBlk_ok S hkd hX2
            have jt : JT τ X2 cc tt := ht X2 S2
            exact wpT_hideD h4D (jt ρ2 _ c H0 γ σ2 (unT H4 D) (by rw [eK2]; exact r2) (fun z H5 => Ext τ (unT H4 D) H5 ∧ _) fun z H5 c e => ⟨e, c⟩) fun z H5 hn ⟨e, c⟩ => k z H5 hn e c
          | cons _ _ => exact (ht X' SX').elim
      refine tests _ fun z H5 hn5 e5 c => ?_
      have h5D : (upd H5 D (.dK ws)) D = some (.dK ws) := upd_same
      cases z with
      | false =>
        refine iteF ⟨acc, ws, h5D, ?_, ?_, by omega, c.2 rfl⟩
        · rw [unT_upd hn5]; exact (h2.trans (.of_same smU)).trans e5
        · rw [unT_upd hn5]; exact KvOk.same (res_ext e5 fun _ => own_ad) dpw4
      | true =>
        refine iteT ?_
        intro X3 hX3
        have eK3 := isBlk_K hX3
        have S3 := isBlk_ok S hkd hX3
        refine wpE_hideD h5D ?_ fun v H6 hn6 (h6 : ∃ dk, Ext τ H5 H6 ∧ Dp X.K (res H6 (own τ σ ρ)) v dk ∧ te ρ2 fun y => ∃ k, keyD dk = some k ∧ dcC g tt tk te (fun acc => C (.dic acc)) (wipeS ρ (own_.map (·.2))) (ds.drop (i + 1)) (putD acc k y)) => ?_
        · rw [unT_upd hn5]
          refine hkx X3 S3 ρ2 _ (c.1 rfl) H0 γ σ2 H5 (by rw [eK3]; exact r2.after e5) _ fun d v H6 c e6 h6 => ⟨d, e6, ?_, c⟩
          rw [eK3, eo] at h6
          exact h6
        · obtain ⟨dk, e6, d6, c6⟩ := h6
          intro X7 hX7
          have eK7 := isBlk_K hX7
          have S7 := isBlk_ok S hkd hX7
          refine wpE_hideD (kvs := ws) upd_same ?_ fun v7 H7 hn7 (h7 : ∃ d, Ext τ H6 H7 ∧ Dp X.K (res H7 (own τ σ ρ)) v7 d ∧ ∃ k, keyD dk = some k ∧ dcC g tt tk te (fun acc => C (.dic acc)) (wipeS ρ (own_.map (·.2))) (ds.drop (i + 1)) (putD acc k d)) => ?_
          · rw [unT_upd hn6]
            refine he X7 S7 ρ2 _ c6 H0 γ σ2 H6 (by rw [eK7]; exact (r2.after e5).after e6) _ fun d v H7 c e7 h7 => ⟨d, e7, ?_, c⟩
            rw [eK7, eo] at h7
            exact h7
          · obtain ⟨d, e7, d7, kk, hkk, c7⟩ := h7
            have dp67 := KvOk.same (res_ext (e5.trans (e6.trans e7)) fun _ => own_ad) dpw4
            refine ⟨ws, kk, dp_key d6 hkk, upd_same, ?_, putD acc kk d, putK ws kk v7, upd_same, ?_, ?_, ?_, c7⟩
            · rw [kv_len h3]; omega
            · rw [upd_upd, unT_upd hn7]; exact (((h2.trans (.of_same smU)).trans e5).trans e6).trans e7
            · rw [upd_upd, unT_upd hn7]; exact kv_put dp67 d7
            · have h8 := length_putK ws kk v7
              rw [← kv_len (kv_put dp67 d7)]
              rw [kv_len h3] at h8
              omega
  · rw [List.drop_of_length_le (by omega)] at c
    refine .inl ⟨hJ.stop H' _ bo i (by omega), q (.dic acc) _ H' c ?_ ⟨D, ws, rfl, e1.fresh r.inv hD, h1, ?_⟩⟩
    · exact (e1.trans h2).trans (.of_same unT_le)
    · exact KvOk.same (res_mono fun b o n e => by
        have hb : b ≠ D := fun z => by rw [z, unT_same] at e; cases e
        exact ⟨fun z => z.elim n hb, unT_le b o e⟩) h3
theorem je_dc (own_ : List (Str × Nat)) (S : Ok cp G N sc k X) (hi : JIx τ X tg iter ti) (hg : ∀ X', Ok (capt scope) G N (relS scope sc) k X' → JGc (own_.map (·.2)) τ X' tg g) (ht : ∀ X', Ok (capt scope) G N (relS scope sc) k X' → JTs τ X' ifs tt) (hkx : ∀ X', Ok (capt scope) G N (relS scope sc) k X' → JD τ X' kx tk) (he : ∀ X', Ok (capt scope) G N (relS scope sc) k X' → JD τ X' elt te)
    (hok : blkC N sc scope own_ = true := by decide +kernel) (hs : ∀ x, foldedSetIterable iter X.env x = pure x := by intro _; rfl) : JE τ X (.DictComp kx elt [⟨tg, iter, ifs, 0⟩] scope pos) (eDc ti g tt tk te (own_.map (·.2))) := fun ρ C c H0 γ σ H r Q q =>
  wpE_of (pe_dc (own := own_) S.calm (by rw [S.eN]; exact S.nd) pi_w (by rw [S.eN, S.es]; exact blkOk_by hok) (g := wgB X scope tg) (tt := wtB X scope ifs) (tk := weB X scope kx) (tv := weB X scope elt) (fun s H C cl fp => ⟨fun pins s' σ H' v u Q I rv h => pg_w.run pins s' σ H' v u Q I rv (h _ ⟨s, H, C, cl, fp, rfl⟩)⟩) pts_B (fun s H C cl fp => ⟨fun pins s' σ H' Q I h => pe_w.run pins s' σ H' Q I (h _ ⟨s, H, C, cl, fp, rfl⟩)⟩) (fun s H C cl fp => ⟨fun pins s' σ H' Q I h => pe_w.run pins s' σ H' Q I (h _ ⟨s, H, C, cl, fp, rfl⟩)⟩) hs)
    (dc_read own_ S hi hg ht hkx he (blkOk_by hok) ρ C c H0 γ σ H r Q q)
end
/-! ### displays -/
def prC : List (UV × UV) → En → (List (D × D) → Prop) → Prop
  | [], _, C => C []
  | p :: r, ρ, C => p.1 ρ fun a => p.2 ρ fun b => prC r ρ fun ps => C ((a, b) :: ps)
def keysD : List (D × D) → Option (List (Key × D))
  | [] => some []
  | p :: ps => match keyD p.1, keysD ps with
    | some k, some r => some ((k, p.2) :: r)
    | _, _ => none
section
variable {τ : Tn} {G : Gx} {cp : List Str} {N : List Str} {sc : Scope} {k : Nat} {X : Cx} {e e2 : Expr} {tv tk : UV} {te : UE} {pos p2 : Pos}
def JPs (τ : Tn) (X : Cx) (pos : Pos) (keys : List (Option Expr)) (values : List Expr) (trs : List (UV × UV)) : Prop := ∃ ts : List (TE × TE), PPs X pos keys values ts ∧ ∀ (ρ : En) (C : List (D × D) → Prop), prC trs ρ C → ∀ (H0 : Hp) (γ : List (V × D)) (σ : St) (H : Hp), Rep X.K τ H0 γ H σ ρ → ∀ Q : List (V × V) → Hp → Prop,
  (∀ ps vs H2, C ps → Ext τ H H2 → Paired (fun (v : V × V) (d : D × D) => Dp X.K (res H2 (own τ σ ρ)) v.1 d.1 ∧ Dp X.K (res H2 (own τ σ ρ)) v.2 d.2) vs ps → Q vs H2) → tPairs ts σ H Q
theorem jps_nil : JPs τ X pos [] [] [] := ⟨[], pps_nil, fun ρ C c H0 γ σ H r Q q => q [] [] H c .refl .nil⟩
theorem jps_cons {ks : List (Option Expr)} {vs : List Expr} {trs : List (UV × UV)} (hk : JD τ X e tk) (hv : JD τ X e2 tv) (hr : JPs τ X pos ks vs trs) : JPs τ X pos (some e :: ks) (e2 :: vs) ((tk, tv) :: trs) := by
  obtain ⟨ts, h1, h2⟩ := hr
  refine ⟨(wpE X e, wpE X e2) :: ts, pps_cons pe_w pe_w h1, fun ρ C c H0 γ σ H r Q q => ?_⟩
  refine hk ρ _ c H0 γ σ H r _ fun d v H2 c e1 b1 => hv ρ _ c H0 γ σ H2 (r.after e1) _ fun d3 v3 H3 c e3 b3 => ?_
  refine h2 ρ _ c H0 γ σ H3 ((r.after e1).after e3) _ fun ps ws H4 c e4 b4 => ?_
  exact q _ _ H4 c ((e1.trans e3).trans e4) (.cons ⟨dp_after e4 (dp_after e3 b1), dp_after e4 b3⟩ b4)
theorem keysD_ok {K : PySem.W.Frag} {R : Hp} : ∀ {vs : List (V × V)} {ps : List (D × D)} {kds : List (Key × D)}, Paired (fun (v : V × V) (d : D × D) => Dp K R v.1 d.1 ∧ Dp K R v.2 d.2) vs ps → keysD ps = some kds → ∃ kvs : List (Key × V), vs = kvs.map (fun kv => (kV kv.1, kv.2)) ∧ KvOk K R kvs kds
  | _, _, kds, .nil, e => by
    cases e
    exact ⟨[], rfl, .nil⟩
  | _, _, kds, .cons (a := v) (b := d) h t, e => by
    unfold keysD at e
    split at e
    · rename_i kk r e1 e2
      cases e
      obtain ⟨kvs, rfl, hk⟩ := keysD_ok t e2
      refine ⟨(kk, v.2) :: kvs, ?_, .cons ⟨rfl, h.2⟩ hk⟩
      rw [List.map_cons, ← dp_key h.1 e1]
    · cases e
theorem keysD_len : ∀ {ps : List (D × D)} {kds : List (Key × D)}, keysD ps = some kds → kds.length = ps.length
  | [], _, e => by cases e; rfl
  | p :: ps, kds, e => by
    unfold keysD at e
    split at e
    · rename_i kk r e1 e2
      cases e
      rw [List.length_cons, List.length_cons, keysD_len e2]
    · cases e
theorem rd_but {R R' : Hp} {p a : Addr} {u : HO} (e : ∀ a o, a ≠ p → R a = some o → R' a = some o) (hp : ∀ o, R p = some o → ∃ kvs, o = .dK kvs) (hu : ∀ kvs, u ≠ .dK kvs) (h : Rd R a u) : Rd R' a u := by
  rcases h with h | ⟨o, h⟩
  · exact .inl (e _ _ (fun z => by subst z; obtain ⟨kvs, q⟩ := hp _ h; exact hu kvs q) h)
  · exact .inr ⟨o, e _ _ (fun z => by subst z; obtain ⟨kvs, q⟩ := hp _ h; cases q) h⟩
mutual
theorem dp_but {K : PySem.W.Frag} {R R' : Hp} {p : Addr} (e : ∀ a o, a ≠ p → R a = some o → R' a = some o) (hp : ∀ o, R p = some o → ∃ kvs, o = .dK kvs) : ∀ (d : D) (v : V), Dp K R v d → Dp K R' v d
  | .none, _, h => by cases h; exact .non
  | .bool b, _, h => by cases h; exact .bl b
  | .int i, _, h => by cases h; exact .int i
  | .str x, _, h => by cases h; exact .str x
  | .list ds, _, h => by
    cases h with
    | lst hs ha => exact .lst (hs.imp (rd_but e hp fun _ z => nomatch z) id) (dpAll_but e hp ds _ ha)
  | .tuple ds, _, h => by
    cases h with
    | tup hs ha => exact .tup (hs.imp (rd_but e hp fun _ z => nomatch z) id) (dpAll_but e hp ds _ ha)
  | .dict _, _, h => by cases h
theorem dpAll_but {K : PySem.W.Frag} {R R' : Hp} {p : Addr} (e : ∀ a o, a ≠ p → R a = some o → R' a = some o) (hp : ∀ o, R p = some o → ∃ kvs, o = .dK kvs) : ∀ (ds : List D) (vs : List V), DpAll K R vs ds → DpAll K R' vs ds
  | [], _, h => by cases h; exact .nil
  | d :: ds, _, h => by
    cases h with
    | cons h1 h2 => exact .cons (dp_but e hp d _ h1) (dpAll_but e hp ds _ h2)
end
theorem kv_but {K : PySem.W.Frag} {R R' : Hp} {p : Addr} (e : ∀ a o, a ≠ p → R a = some o → R' a = some o) (hp : ∀ o, R p = some o → ∃ kvs, o = .dK kvs) : ∀ {kvs : List (Key × V)} {kds : List (Key × D)}, KvOk K R kvs kds → KvOk K R' kvs kds
  | _, _, .nil => .nil
  | _, _, .cons h t => .cons ⟨h.1, dp_but e hp _ _ h.2⟩ (kv_but e hp t)
def eDisp (trs : List (UV × UV)) : UE := fun ρ C => prC trs ρ fun ps => ∃ kds, keysD ps = some kds ∧ kds.length ≤ 15 ∧ C (.dic (mergeD [] kds))
theorem je_disp {keys : List (Option Expr)} {values : List Expr} {trs : List (UV × UV)} (h : JPs τ X pos keys values trs) (hall : keys.all (·.isSome) = true := by rfl) (hl : keys.length = values.length := by rfl) (h0 : keys ≠ [] := by simp) (h15 : keys.length ≤ 15 := by decide) : JE τ X (.Dict keys values pos) (eDisp trs) := fun ρ C c H0 γ σ H r Q q => by
  obtain ⟨ts, h1, h2⟩ := h
  refine wpE_of (pe_disp h1 hall hl h0 h15) fun p hp => ?_
  have e0 : Ext τ H (upd H p (.dK [])) := .new hp
  refine h2 ρ _ c H0 γ σ _ (r.after e0) _ fun ps vs H2 c e b => ?_
  obtain ⟨kds, k1, k2, c⟩ := c
  have nad : ¬ τ.ad p := fun z => r.notOwn hp (own_ad z)
  have hp2 : H2 p = some (.dK []) := e.kp p _ upd_same nad
  obtain ⟨kvs, rfl, hk⟩ := keysD_ok b k1
  refine ⟨hp2, kvs, rfl, by rw [kv_len hk]; exact k2, q _ _ _ c ⟨fun a o ea na => ?_, fun i => ?_⟩ ⟨p, _, rfl, hp, upd_same, ?_⟩⟩
  · have ne : a ≠ p := ne_of_none ea hp
    rw [upd_ne ne]
    exact e.kp a o (by rw [upd_ne ne]; exact ea) na
  · have i2 := e.inv (e0.inv i)
    refine τ.dep (fun a o ea ha => ?_) i2
    by_cases ne : a = p
    · subst ne
      rw [hp2] at ea
      cases ea
      rcases ha with ha | ha
      · exact absurd ha nad
      · exact absurd trivial ha
    · rw [upd_ne ne]; exact ea
  · refine kv_but (p := p) (fun a o ne ea => ?_) (fun o eo => ?_) (kv_merge hk .nil)
    · obtain ⟨n, eb, k⟩ := res_some.mp ea
      exact res_put (fun z => z.elim n ne) (by rw [upd_ne ne]; exact eb) k
    · have := res_at eo
      rw [hp2] at this
      cases this
      exact ⟨_, rfl⟩
/-- {..}[x] and the like -/
def dDGetE (te : UE) (tk : UV) : UV := fun ρ C => te ρ fun r => kRs r fun kds => tk ρ fun dk => ∃ k d, keyD dk = some k ∧ getD? kds k = some d ∧ C d
theorem jd_dgetE (S : Ok cp G N sc k X) (ho : JE τ X e te) (hk : JD τ X e2 tk) (hs : NoSl e2 := by exact fun _ _ => rfl) : JD τ X (.Subscript e e2 pos) (dDGetE te tk) := fun ρ C c H0 γ σ H r Q q => by
  refine wpE_of (pe_dget (by have := S.room.un; omega) pe_w pe_w hs) (ho ρ _ c H0 γ σ H r _ fun rs v H1 c e1 h1 => ?_)
  cases rs with
  | dat _ => exact c.elim
  | lst _ => exact c.elim
  | th _ => exact c.elim
  | dll _ => exact c.elim
  | dic kds =>
    obtain ⟨a, kvs, rfl, hn, ha, hkv⟩ := h1
    refine hk ρ _ c H0 γ σ H1 (r.after e1) _ fun d2 v2 H2 c e2 b2 => ?_
    obtain ⟨kk, dd, hkk, hg, c⟩ := c
    have nad : ¬ τ.ad a := fun z => r.notOwn hn (own_ad z)
    have hp := e2.kp a _ ha nad
    have h2 := KvOk.same (res_ext (ow := fun b => own τ σ ρ b ∨ b = a) e2 fun b z => .inl (own_ad z)) hkv
    obtain ⟨v, hv1, hv2⟩ := (kv_get (k := kk) h2).1 dd hg
    refine ⟨a, v, rfl, ?_, q _ _ _ c (e1.trans e2) (dp_same (res_mono fun b o n eb => ⟨fun z => n (.inl z), eb⟩) _ _ hv2)⟩
    rw [dp_key b2 hkk, ← hv1]
    exact DGet.k hp
end
/-! lemmas for the math -/
section
variable {ρ : En} {R : Rs → Prop} {C : D → Prop} {tk tv : UV} {te : UE} {trs : List (UV × UV)}
theorem c_eDc {ti : UL} {g : UG} {tt : UT} {vs : List Nat} : eDc ti g tt tk te' vs ρ R = (noOwn ρ vs ∧ ti ρ fun ds => dcC g tt tk te' (fun acc => R (.dic acc)) (wipeS ρ vs) ds []) := propext Iff.rfl
theorem c_eDisp : eDisp trs ρ R = prC trs ρ fun ps => ∃ kds, keysD ps = some kds ∧ kds.length ≤ 15 ∧ R (.dic (mergeD [] kds)) := propext Iff.rfl
theorem c_prC0 {C : List (D × D) → Prop} : prC [] ρ C = C [] := rfl
theorem c_prC1 {C : List (D × D) → Prop} : prC ((tk, tv) :: trs) ρ C = tk ρ fun a => tv ρ fun b => prC trs ρ fun ps => C ((a, b) :: ps) := rfl
theorem c_dDGetE : dDGetE te tk ρ C = te ρ fun r => kRs r fun kds => tk ρ fun dk => ∃ k d, keyD dk = some k ∧ getD? kds k = some d ∧ C d := propext Iff.rfl
end
end Pu
/-! ### sorted(a dict | a set of ints), of any size -/
namespace Pu
open PySem PySem.Spec PyProof.Rows L2 PySem.W
theorem each_ints : ∀ {vs : List Value} {ns : List Int}, IntsAre vs ns → EachIs (fun u (i : Int) => ∃ t, u = Value.int i t) vs ns
  | _, _, .nil => .nil
  | _, _, .cons n t h => .cons ⟨t, rfl⟩ (each_ints h)
theorem ints_each' : ∀ {vs : List Value} {ns : List Int}, EachIs (fun u (i : Int) => ∃ t, u = Value.int i t) vs ns → IntsAre vs ns
  | _, _, .nil => .nil
  | _, _, .cons h t => by
    obtain ⟨tk, rfl⟩ := h
    exact .cons _ _ (ints_each' t)
theorem each_reads {h : Heap} {a : Addr} : ∀ {vs : List Value} {ns : List Int}, IntsAre vs ns → EachIs (fun u (i : Int) => ∃ as, Reads h u (PyData.int i) as ∧ a ∉ as) vs ns
  | _, _, .nil => .nil
  | _, _, .cons n t r => .cons ⟨[], .int _ _, by simp⟩ (each_reads r)
section
variable {prog : Program} {w : World} {A : Around} {E : Value → Shared → Prop} {s : Shared}
theorem sort_intsL {a : Addr} {vs : List Value} {ns : List Int} {n : Nat} {Q : Value → Shared → Prop} (ho : s.heap.get? a = some (seqObj "list" vs.toArray n)) (hI : IntsAre vs ns) (hL : ns.length ≤ sizeLine) (hu : A.units + 3 < cLine)
    (h : ∀ (out : Array Value) (ns' : List Int), IntsAre out.toList ns' → ns'.Perm ns → ns'.Pairwise (· ≤ ·) → Q .none { s with heap := sortedHeap s.heap a vs out }) : wpAny (model prog w) A (call (.builtin "list.sort") [.ref a]) Q E s := by
  refine list_sort_data (R := fun u (i : Int) => ∃ t, u = Value.int i t) (enc := PyData.int) ho (each_ints hI) (each_reads hI) (AllAlike.of fun _ _ => rfl) (Sortable.others fun b => ⟨fun z => (by cases z), fun xs z => (by cases z)⟩) hL (fun b _ => ?_) fun out e1 e2 => ?_
  · have : (PyData.int b).depth ≤ 1 := by simp [PyData.depth]
    omega
  · have e := dataLe_int (β := Int) (fun b => b)
    rw [show (fun b : Int => PyData.int b) = PyData.int from rfl] at e
    rw [e] at e2
    refine h _ _ (by simpa using ints_each' e2) (List.mergeSort_perm ..) ?_
    have := List.pairwise_mergeSort (le := fun a b : Int => decide (a ≤ b)) (fun a b c h1 h2 => by simp only [decide_eq_true_eq] at h1 h2 ⊢; omega) (fun a b => by simp only [Bool.or_eq_true, decide_eq_true_eq]; omega) ns
    exact this.imp fun h => of_decide_eq_true h
theorem sorted_setL {a : Addr} {S : Int → Bool} {n : Nat} {Q : Value → Shared → Prop} (R : SetR w s.heap a S n) (hh : A.handled = none) (hz : n ≤ sizeLine) (hu : A.units + 4 < cLine)
    (hQ : ∀ s' p (out : Array Value) (c : Nat) (ns : List Int), (∀ b o, s.heap.get? b = some o → s'.heap.get? b = some o) → s'.gens = s.gens → s'.os = s.os → s.heap.objs.size ≤ p →
      s'.heap.get? p = some (seqObj "list" out c) → IntsAre out.toList ns → ns.Pairwise (· < ·) → (∀ k, k ∈ ns ↔ S k = true) → ns.length = n → Q (.ref p) s') :
    wpAny (model prog w) A (call (.builtin "sorted") [.ref a]) Q E s := by
  obtain ⟨o, es, ep, t, ho, hex, hd, g, nd, hm, hb, hf, hn, hr, hl⟩ := R
  refine Calls.call_function_entry kind_sorted plain_sorted entry_sorted (args_sorted1 _) ?_
  unfold Builtin.«sorted»
  refine wpAny_bind (m := checkCount "sorted" 1 1 _) (wpAny_pure ?_)
  refine wpAny_bind (collect_set (A := A.in1) hh ⟨o, ho, hex.1, hd⟩ hf hb hr hl fun s1 vs k1 hz1 g1 o1 pm => ?_)
  have hvl : vs.length = n := by rw [pm.length_eq, List.length_map, Array.length_toList]; exact hn
  have hI : IntsAre vs (vs.map Builtin.Re.reRawOf) := ints_of vs fun v hv => by
    obtain ⟨e, he, q⟩ := List.mem_map.mp (pm.mem_iff.mp hv)
    obtain ⟨k, tk, h1, _⟩ := g e he
    exact ⟨k, tk, by rw [← q]; exact h1⟩
  have pk : (vs.map Builtin.Re.reRawOf).Perm (es.toList.map keyOf) := by
    have q := pm.map Builtin.Re.reRawOf
    rw [List.map_map] at q
    exact q
  refine wpAny_bind (wpAny_newList ?_ (by rw [hvl]; exact hz))
  have hoL : (s1.heap.push (seqObj "list" vs.toArray 0)).get? s1.heap.objs.size = some (seqObj "list" vs.toArray 0) := Heap.get?_push_size _ rfl
  refine wpAny_bind (wpAny_holding (sort_intsL (s := { s1 with heap := s1.heap.push (seqObj "list" vs.toArray 0) }) hoL hI (by rw [List.length_map, hvl]; exact hz) (by show A.units + 1 + 3 < cLine; omega) fun out ns' a1 a2 a3 => ?_))
  obtain ⟨c, hc⟩ := sortedHeap_at (vs := vs) (out := out) hoL
  have pn : ns'.Perm (es.toList.map keyOf) := a2.trans pk
  refine wpAny_pure ⟨_, rfl, hQ _ s1.heap.objs.size out c ns' (fun b u e => ?_) g1 o1 hz1 hc a1 (lt_of_le_nodup ns' a3 (pn.nodup_iff.mpr nd)) (fun k => by rw [pn.mem_iff, ← hm k]) ?_⟩
  · have q := k1 b u e
    have hlt := Heap.lt_size q
    show (sortedHeap (s1.heap.push (seqObj "list" vs.toArray 0)) s1.heap.objs.size vs out).get? b = some u
    rw [sortedHeap_old (Nat.ne_of_lt hlt) (by rw [size_push']; exact Nat.lt_succ_of_lt hlt)]
    exact Heap.get?_push_of_some _ q
  · rw [pn.length_eq, List.length_map, Array.length_toList]; exact hn
end
section
variable {X : Cx}
def rSortedSetL (w : World) : List V → Hp → VK → Prop := fun vs H Q => ∃ (a : Addr) (S : Int → Bool) (n : Nat), vs = [V.ref a] ∧ H a = some (SetO w a S n) ∧ n ≤ sizeLine ∧ ∀ (ns : List Int) (p : Addr), ns.Pairwise (· < ·) → (∀ k, k ∈ ns ↔ S k = true) → ns.length = n → H p = none → Q (.ref p) (upd H p (.lst (ns.map V.int)))
theorem cr_sortedSetL (hc : X.calm = true) (hu : X.A.units + 65 < cLine) : CallR X (.builtin "sorted") (rSortedSetL X.w) := by
  intro pins s σ H vs us Q I r h
  obtain ⟨a, S, n, rfl, ha, hz, q⟩ := h
  have R := setO_get I ha
  rw [Vals.ref1 r]
  refine sorted_setL R (I.ok.hd hc) hz (by omega) fun s' p out c ns k g o hp hg hi hs hm hl => ?_
  have hlen : (ns.map V.int).length ≤ sizeLine := by rw [List.length_map, hl]; exact hz
  have hn : H p = none := I.hok.fresh hp
  have J : Inv X pins σ (upd H p (.lst (ns.map V.int))) { s with heap := s'.heap, gens := s'.gens, drawn := s'.drawn, toks := s'.toks } :=
    I.call (ch := []) (Un.laid k hp hn) (I.hok.laid k hp ⟨hlen, out.toList, c, vals_of_ints hi, hg⟩) (by rw [g]; exact I.bare) (fun _ z => nomatch z)
  have e : s' = { s with heap := s'.heap, gens := s'.gens, drawn := s'.drawn, toks := s'.toks } := by
    cases s'
    cases s
    cases o
    rfl
  rw [e]
  exact ⟨.ref p, _, J, rfl, q ns p hs hm hl hn⟩
end
section
variable {X : Cx} {τ : Tn} {cp : List Str} {G : Gx} {N : List Str} {sc : Scope} {k : Nat} {e : Expr} {t : UV} {p p2 p3 pos pos2 : Pos} {x : Str}
def fSSetL : D → (Rs → Prop) → Prop
  | .list ds, C => ∃ ns, intsOf ds = some ns ∧ ns.length < 1000 ∧ ∀ ms : List Int, ms.Pairwise (· < ·) → (∀ j, j ∈ ms ↔ j ∈ ns) → C (.lst (ms.map PyData.int))
  | .tuple ds, C => ∃ ns, intsOf ds = some ns ∧ ns.length < 1000 ∧ ∀ ms : List Int, ms.Pairwise (· < ·) → (∀ j, j ∈ ms ↔ j ∈ ns) → C (.lst (ms.map PyData.int))
  | _, _ => False
def eSSetL (t : UV) : UE := fun ρ C => t ρ fun d => fSSetL d C
theorem line1000 {n : Nat} (h : n < 1000) : n ≤ sizeLine := Nat.le_trans (Nat.le_of_lt h) (by decide)
theorem je_ssetL (O : Ok cp G N sc k X) (hm : Free G "sorted") (hm2 : Free G "set") (ha : JV τ X e t) (hg : sc.names.lookup ("sorted" : Str) = some .globalImplicit := by rfl) (hg2 : sc.names.lookup ("set" : Str) = some .globalImplicit := by rfl)
    (he : starEach [e] X.env = (false, eval e X.env) :: starEach [] X.env := by rfl) : JE τ X (.Call (.Name "sorted" p) [.Call (.Name "set" p2) [e] [] pos2] [] pos) (eSSetL t) := by
  intro ρ C c H0 γ σ H r Q q
  refine wpE_of (pe_callB (cr_sortedSetL O.calm (units65 O.room)) (by show X.env.scope.names.lookup ("sorted" : Str) = _; rw [O.es]; exact hg) (by rw [O.em]; exact hm) (by decide +kernel : bootBuiltins "sorted" = some (.builtin "sorted"))
    (pa_cons (pe_callTy (cr_setI O.calm) (by show X.env.scope.names.lookup ("set" : Str) = _; rw [O.es]; exact hg2) (by rw [O.em]; exact hm2) (by decide +kernel : bootBuiltins "set" = some (.type "set")) (pa_cons pe_w pa_nil he) (by decide) (by decide) he (by rfl)) pa_nil (by rfl)) (by decide) (by decide) (by rfl) (by rfl)) ?_
  refine ha ρ _ c H0 γ σ H r _ fun d v H2 c e1 b => ?_
  have main : ∀ (a : Addr) (vs : List V) (ds : List D), v = .ref a → (SqL X.K H2 a vs ∨ SqT X.K H2 a vs) → DpAll X.K (res H2 (own τ σ ρ)) vs ds → (∃ ns, intsOf ds = some ns ∧ ns.length < 1000 ∧ ∀ ms : List Int, ms.Pairwise (· < ·) → (∀ j, j ∈ ms ↔ j ∈ ns) → C (.lst (ms.map PyData.int))) →
      rSetI X.K X.w [v] H2 fun v1 H3 => rSortedSetL X.w [v1] H3 Q := fun a vs ds ev hs ha ⟨ns, h1, h2, h3⟩ => by
    have e2 := intsOf_dp h1 ha
    subst e2
    refine ⟨a, ns, by rw [ev], hs, h2, fun p' c hc hp => ⟨p', _, c, rfl, upd_same, line1000 (by omega), fun ms p'' hpw hmem hlen hp2 => ?_⟩⟩
    have e3 : Ext τ H2 (upd H2 p' (SetO X.w p' (fun j => decide (j ∈ ns)) c)) := .new hp
    have e4 := e1.trans e3
    have r3 := (r.after e1).after e3
    refine q _ _ _ (h3 ms hpw fun j => by rw [hmem j, decide_eq_true_iff]) (e4.trans (.new hp2)) ?_
    exact rs_back r e4 (new_lst r3 hp2 (dp_ints ms))
  cases d with
  | list ds =>
    obtain ⟨a, vs, rfl, hs, ha⟩ := b
    exact main a vs ds rfl (.inl (sqL_same res_le hs)) ha c
  | tuple ds =>
    obtain ⟨a, vs, rfl, hs, ha⟩ := b
    exact main a vs ds rfl (.inr (sqT_same res_le hs)) ha c
  | str x => exact c.elim
  | none => exact c.elim
  | bool _ => exact c.elim
  | int _ => exact c.elim
  | dict _ => exact c.elim
/-! sorted(x), x a dict of one's own with ints for keys -/
theorem call_sortedDL (hcalm : X.calm = true) (hu : X.A.units + 65 < cLine) : CallR X (.builtin "sorted") (fun xs H Q => ∃ (a : Addr) (kvs : List (Key × V)) (ks : List Int), xs = [.ref a] ∧ Rd H a (.dK kvs) ∧ kvs.map (·.1) = ks.map Sum.inl ∧ ks.length ≤ sizeLine ∧
    ∀ (ys : List Int) (p : Addr), ys.Perm ks → ys.Pairwise (· ≤ ·) → H p = none → Q (.ref p) (upd H p (.lst (ys.map V.int)))) := by
  intro pins s σ H xs us Q I r q
  obtain ⟨a, kvs, ks, ex, hd, hks, h64, q⟩ := q
  subst ex
  obtain ⟨u, eu, rx⟩ := vals1 r
  subst eu
  cases rx
  obtain ⟨z, lo, vs, rel, dd⟩ := dk_rd I.hok hd
  obtain ⟨ep, hat⟩ := dd.dictAt
  have hkeys : vs.map (·.1) = ks.map Sum.inl := rel.keys.symm.trans hks
  have hl : vs.length = ks.length := by
    have e := congrArg List.length hkeys
    rw [List.length_map, List.length_map] at e
    exact e
  have h16 : vs.length ≤ sizeLine := by rw [hl]; exact h64
  refine Calls.call_function_entry PyProof.Rows.kind_sorted PyProof.Rows.plain_sorted PyProof.Rows.entry_sorted (PyProof.Rows.args_sorted1 _) ?_
  unfold Builtin.«sorted»
  refine wpAny_bind (m := checkCount "sorted" 1 1 _) (wpAny_pure ?_)
  refine wpAny_bind (PySem.W.kdu_collect (A := X.A.in1) (PySem.W.kdl_dict (knd := mixKind X.prog X.w) (kvs := vs) (ep := ep) lo) (I.ok.hd hcalm) hat h16 fun h' tk acc hk hacc => ?_)
  have hal : acc.toList.length = ks.length := by rw [Array.length_toList, hacc.1, hl]
  have hS : IntsAre acc.toList ks := ints_each hal fun j v e => by
    obtain ⟨k, x, e1, e2⟩ := hacc.2 j v (by rw [← Array.getElem?_toList]; exact e)
    have e3 : (vs.map (·.1))[j]? = some k := by rw [List.getElem?_map, e1]; rfl
    rw [hkeys, List.getElem?_map] at e3
    cases e4 : ks[j]? with
    | none => rw [e4] at e3; cases e3
    | some y =>
      rw [e4] at e3
      have e5 : Sum.inl y = k := Option.some.inj e3
      subst e5
      rcases keyIs_shape (show keyIs (Sum.inl y) v = true from e2) with ⟨i, t, ek, ev⟩ | ⟨z, t, ek, ev⟩
      · cases ek
        exact ⟨y, t, rfl, ev⟩
      · cases ek
  have I1 : L2.Inv X pins σ H { s with heap := h', toks := tk } := I.kept hk
  refine wpAny_bind (wpAny_newList ?_ (by rw [hal]; exact h64))
  have hoL : (h'.push (seqObj "list" acc.toList.toArray 0)).get? h'.objs.size = some (seqObj "list" acc.toList.toArray 0) := Heap.get?_push_size _ rfl
  show wpAny _ _ _ _ _ { s with heap := h'.push (seqObj "list" acc.toList.toArray 0), toks := tk }
  refine wpAny_bind (wpAny_holding (sort_intsL (s := { s with heap := h'.push (seqObj "list" acc.toList.toArray 0), toks := tk }) hoL hS h64 (by show X.A.units + 1 + 3 < cLine; omega) fun out ys g1 g2 g3 => ?_))
  obtain ⟨e', he'⟩ := PyProof.Rows.sortedHeap_at (vs := acc.toList) (out := out) hoL
  have hlen : (ys.map V.int).length ≤ sizeLine := by
    rw [List.length_map, g2.length_eq]
    exact h64
  refine wpAny_pure ⟨_, rfl, .ref h'.objs.size, upd H h'.objs.size (.lst (ys.map V.int)), I1.laid (t' := tk) (fun b u e => ?_) (Nat.le_refl _)
    (show ObjOk X.prog X.w _ _ _ (.lst (ys.map V.int)) from ⟨hlen, out.toList, e', vals_of_ints g1, by rw [Array.toArray_toList]; exact he'⟩), rfl, q ys _ g2 g3 (I1.hok.fresh (Nat.le_refl _))⟩
  have hb : b < h'.objs.size := Heap.lt_size e
  rw [PyProof.Rows.sortedHeap_old (Nat.ne_of_lt hb) (by rw [size_push']; exact Nat.lt_succ_of_lt hb)]
  exact Heap.get?_push_of_some _ e
def eSortKL (i : Nat) : UE := fun ρ C => match ρ[i]? with
  | some (.dic kds) => ∃ ks : List Int, kds.map (·.1) = ks.map Sum.inl ∧ ks.length ≤ 1000000 ∧ ∀ ys : List Int, ys.Perm ks → ys.Pairwise (· ≤ ·) → C (.lst (ys.map PyData.int))
  | _ => False
theorem je_sortKL (S : Ok cp G N sc k X) (i : Nat) (hm : Free G "sorted") (hN : N[i]? = some x := by rfl) (hvis : Vis sc x := by first | exact Or.inl rfl | exact Or.inr (Or.inl rfl) | exact Or.inr (Or.inr rfl)) (hd : (x == ("__debug__" : Str)) = false := by decide) (hcd : (x == ("__classdict__" : Str)) = false := by decide)
    (hg : sc.names.lookup ("sorted" : Str) = some .globalImplicit := by rfl) : JE τ X (.Call (.Name "sorted" p2) [.Name x p3] [] pos) (eSortKL i) := fun ρ C c H0 γ σ H r Q q => by
  refine wpE_of (pe_callB (call_sortedDL S.calm (units65 S.room)) (by show X.env.scope.names.lookup ("sorted" : Str) = _; rw [S.es]; exact hg) (by rw [S.em]; exact hm) (by decide +kernel : bootBuiltins "sorted" = some (.builtin "sorted")) (pa_cons (pe_var (i := i) (by rw [S.eN]; exact hN) (by rw [S.es]; exact hvis) hd hcd) pa_nil (by rfl)) (by decide) (by decide) (by rfl) (by rfl)) ?_
  unfold eSortKL at c
  split at c
  · rename_i kds hi
    obtain ⟨p, kvs, e0, h0, hn, h, h'⟩ := r.sl i _ hi
    obtain ⟨ks, h1, h2, h3⟩ := c
    exact ⟨_, e0, p, kvs, ks, rfl, .inl h, (kv_keys h').trans h1, small_line h2, fun ys l y1 y2 hl => q _ _ _ (h3 ys y1 y2) (.new hl) (new_lst r hl (dp_ints ys))⟩
  · exact c.elim
end
section
variable {ρ : En} {R : Rs → Prop} {i : Nat} {t : UV}
theorem c_eSSetL : eSSetL t ρ R = t ρ fun d => fSSetL d R := propext Iff.rfl
theorem q_ssetL_l {ds : List D} : fSSetL (.list ds) R ↔ ixC (intsOf ds) fun ns => ns.length < 1000 ∧ ∀ ms : List Int, ms.Pairwise (· < ·) → (∀ j, j ∈ ms ↔ j ∈ ns) → R (.lst (ms.map PyData.int)) := by rw [ixC_iff]; rfl
theorem q_ssetL_t {ds : List D} : fSSetL (.tuple ds) R ↔ ixC (intsOf ds) fun ns => ns.length < 1000 ∧ ∀ ms : List Int, ms.Pairwise (· < ·) → (∀ j, j ∈ ms ↔ j ∈ ns) → R (.lst (ms.map PyData.int)) := by rw [ixC_iff]; rfl
theorem c_eSortKL : eSortKL i ρ R = kSl ρ[i]? fun kds => ∃ ks : List Int, kds.map (·.1) = ks.map Sum.inl ∧ ks.length ≤ 1000000 ∧ ∀ ys : List Int, ys.Perm ks → ys.Pairwise (· ≤ ·) → R (.lst (ys.map PyData.int)) := by
  unfold eSortKL
  cases ρ[i]? with
  | none => rfl
  | some s => cases s <;> rfl
end
end Pu
/-! ### x, y = e, e2 by the plain road (a tuple made and taken apart) -/
namespace Pu
open PySem PySem.Spec PyProof.Rows L2 PySem.W
section
variable {cp : List Str} {τ : Tn} {G : Gx} {N : List Str} {sc : Scope} {k : Nat} {X : Cx} {e e2 : Expr} {te ue : UE} {x y : Str} {pos : Pos}
def sPlr2 (i j : Nat) (te ue : UE) : US := fun E ρ => te ρ fun r1 => ue ρ fun r2 => r1.lf = true ∧ r2.lf = true ∧ E.nx ((ρ.set i r1.sl).set j r2.sl)
theorem js_plr2 {px py pt pt2 : Pos} {kt k2 : Nat} (S : Ok cp G N sc k X) (i j : Nat) (ha : JE τ X e te) (hb : JE τ X e2 ue) (hi : N[i]? = some x := by rfl) (hj : N[j]? = some y := by rfl) 
    (hx : LocC cp sc x := by first | exact Or.inl rfl | exact Or.inr ⟨rfl, rfl⟩) (hy : LocC cp sc y := by first | exact Or.inl rfl | exact Or.inr ⟨rfl, rfl⟩)
    (hw : swappedStores [.Tuple [.Name x px, .Name y py] kt pt] (.Tuple [e, e2] k2 pt2) { (default : Env) with scope := sc } = pure none := by rfl)
    (hs : swapsWithSole [.Tuple [.Name x px, .Name y py] kt pt] (.Tuple [e, e2] k2 pt2) pos.line X.env = pure false := by rfl) (hst : starEach [e, e2] X.env = (false, eval e X.env) :: starEach [e2] X.env := by rfl) (hst2 : starEach [e2] X.env = (false, eval e2 X.env) :: starEach [] X.env := by rfl) :
    JS τ X (.Assign [.Tuple [.Name x px, .Name y py] kt pt] (.Tuple [e, e2] k2 pt2) pos) (sPlr2 i j te ue) := fun ρ E c H0 γ σ H r Dn d =>
  wpS_of (ps_asg (pe_tup (pa_cons pe_w (pa_cons pe_w pa_nil hst2) hst))
      (pg_tup (n := 2) S.calm (pgs_cons (pg_name (i := i) (by rw [S.eN]; exact S.nd) (by rw [S.eN]; exact hi) (loc_of S hx) (fn_of_loc S hx)) (pgs_cons (pg_name (i := j) (by rw [S.eN]; exact S.nd) (by rw [S.eN]; exact hj) (loc_of S hy) (fn_of_loc S hy)) pgs_nil)))
      hs ((swapped_env S.es).trans hw))
    (ha ρ _ c H0 γ σ H r _ fun r1 v1 H2 c e1 h1 => hb ρ _ c H0 γ σ H2 (r.after e1) _ fun r2 v2 H3 c e2 h2 => ⟨small_line (by simp), fun p hp =>
      ⟨_, _, rfl, .inl (.inl upd_same), rfl, ⟨_, _, rfl, ⟨_, _, rfl, ⟨rfl, d.nx _ _ _ c.2.2 (((r.set e1 h1).set e2 (RsOk.beside r e1 e2 h1 c.2.1 h2)).after (.new hp))⟩⟩⟩⟩⟩)
end
theorem c_sPlr2 {te ue : UE} {i j : Nat} {E : Ed} {ρ : En} : sPlr2 i j te ue E ρ = te ρ fun r1 => ue ρ fun r2 => r1.lf = true ∧ r2.lf = true ∧ E.nx ((ρ.set i r1.sl).set j r2.sl) := propext Iff.rfl
end Pu
/-! ### a comprehension over a dict of one's own -/
namespace Pu
open PySem PySem.Spec PyProof.Rows L2 PySem.W
def kD : Key → D
  | .inl i => .int i
  | .inr x => .str x
section
variable {K : PySem.W.Frag}
theorem rd_off {R : Hp} {d a : Addr} {od : Obj} {kvs : List (Key × V)} {u : HO} (hd : R d = some (.frz od (.dK kvs))) (hu : u ≠ .dK kvs) (hv : ∀ o w, u ≠ .frz o w) (h : Rd R a u) : Rd (unT R d) a u := by
  have hne : a ≠ d := fun z => by
    subst z
    rcases h with h | ⟨o, h⟩
    · rw [hd] at h
      exact hv od _ (Option.some.inj h).symm
    · rw [hd] at h
      have := Option.some.inj h
      injection this with _ e
      exact hu e.symm
  rcases h with h | ⟨o, h⟩
  · exact .inl (by rw [unT_ne hne]; exact h)
  · exact .inr ⟨o, by rw [unT_ne hne]; exact h⟩
mutual
theorem dp_off {R : Hp} {d : Addr} {od : Obj} {kvs : List (Key × V)} (hd : R d = some (.frz od (.dK kvs))) : ∀ (dd : D) (v : V), Dp K R v dd → Dp K (unT R d) v dd
  | .none, _, h => by cases h; exact .non
  | .bool b, _, h => by cases h; exact .bl b
  | .int i, _, h => by cases h; exact .int i
  | .str x, _, h => by cases h; exact .str x
  | .list ds, _, h => by
    cases h with
    | lst hs ha => exact .lst (hs.imp (rd_off hd (fun z => by cases z) (fun _ _ z => by cases z)) id) (dpAll_off hd ds _ ha)
  | .tuple ds, _, h => by
    cases h with
    | tup hs ha => exact .tup (hs.imp (rd_off hd (fun z => by cases z) (fun _ _ z => by cases z)) id) (dpAll_off hd ds _ ha)
  | .dict _, _, h => by cases h
theorem dpAll_off {R : Hp} {d : Addr} {od : Obj} {kvs : List (Key × V)} (hd : R d = some (.frz od (.dK kvs))) : ∀ (ds : List D) (vs : List V), DpAll K R vs ds → DpAll K (unT R d) vs ds
  | [], _, h => by cases h; exact .nil
  | e :: ds, _, h => by
    cases h with
    | cons h1 h2 => exact .cons (dp_off hd e _ h1) (dpAll_off hd ds _ h2)
end
end
section
variable {τ : Tn} {G : Gx} {cp : List Str} {N : List Str} {sc scope : Scope} {k : Nat} {X : Cx} {tg iter elt : Expr} {ifs : List Expr} {g : UG} {tt : UT} {te : UV} {ti : UL} {pos : Pos}
theorem lcK_read (own_ : List (Str × Nat)) (S : Ok cp G N sc k X) (hg : ∀ X', Ok (capt scope) G N (relS scope sc) k X' → JGc (own_.map (·.2)) τ X' tg g) (ht : ∀ X', Ok (capt scope) G N (relS scope sc) k X' → JTs τ X' ifs tt) (he : ∀ X', Ok (capt scope) G N (relS scope sc) k X' → JD τ X' elt te)
    (ok : BlkOk N sc scope own_) (ρ : En) (C : Rs → Prop) (ds : List D) (hno : noOwn ρ (own_.map (·.2))) (c : lcC g tt te (fun acc => C (.lst acc)) (wipeS ρ (own_.map (·.2))) ds []) (H0 : Hp) (γ : List (V × D)) (σ : St) (H1 : Hp) (r : Rep X.K τ H0 γ H1 σ ρ)
    (d : Addr) (od : Obj) (kvs : List (Key × V)) (hd : H1 d = some (.frz od (.dK kvs))) (hnd : ¬ τ.ad d) (hks : ds = kvs.map fun p => kD p.1) (hlen : ds.length ≤ sizeLine) (Q : VK)
    (q : ∀ acc v H2, C (.lst acc) → Ext τ H1 H2 → RsOk X.K τ H1 H2 σ ρ v (.lst acc) → Q v H2) (hw : ∀ R : It → Hp → Prop, R (Itk d od kvs) H1 → wpI X tg iter σ H1 R) : tLc (wpI X tg iter) (wgB X scope tg) (wtB X scope ifs) (weB X scope elt) (own_.map (·.2)) σ H1 Q := by
  have hkd := ok.kind
  have hkl : kvs.length = ds.length := by rw [hks, List.length_map]
  refine hw _ fun D hD => ?_
  have nownD : ¬ own τ σ ρ D := r.notOwn hD
  refine ⟨fun i m H' => m = ds.length - i ∧ ∃ acc ws, H' D = some (.lst ws) ∧ Ext τ H1 (unT H' D) ∧ DpAll X.K (res (unT H' D) (own τ σ ρ)) ws acc ∧ acc.length ≤ i ∧ lcC g tt te (fun acc => C (.lst acc)) (wipeS ρ (own_.map (·.2))) (ds.drop i) acc, ⟨_, rfl, [], [], upd_same, ?_, .nil, Nat.le_refl _, c⟩, fun i m H' ⟨hm, acc, ws, h1, h2, h3, h4, c⟩ => ?_⟩
  · rw [unT_upd hD]; exact .refl
  have R2 := r.after h2
  have hdk : H' d = some (.frz od (.dK kvs)) := unT_le d _ (h2.kp d _ hd hnd)
  by_cases hlt : i < ds.length
  · rw [List.drop_eq_getElem_cons hlt, lcC] at c
    refine .inr ⟨⟨hdk, by omega⟩, fun H'' => ∃ acc ws, H'' D = some (.lst ws) ∧ Ext τ H1 (unT H'' D) ∧ DpAll X.K (res (unT H'' D) (own τ σ ρ)) ws acc ∧ acc.length ≤ i + 1 ∧ lcC g tt te (fun acc => C (.lst acc)) (wipeS ρ (own_.map (·.2))) (ds.drop (i + 1)) acc,
      fun H'' h => ⟨ds.length - (i + 1), by omega, rfl, h⟩, fun x H4 hy X' hX' => ?_⟩
    obtain ⟨eH4, kk, vv, hkv, ex⟩ := hy
    have sm : Same H' H4 := by rw [eH4]; exact fun _ _ e => e
    have hdp : Dp X.K (res H4 (fun b => own τ σ ρ b ∨ b = D)) x ds[i] := by
      rw [ex]
      have e9 : ds[i]? = some (kD kk) := by rw [hks, List.getElem?_map, hkv]; rfl
      rw [List.getElem?_eq_getElem hlt] at e9
      rw [Option.some.inj e9]
      cases kk
      · exact .int _
      · exact .str _
    have h4D : H4 D = some (.lst ws) := sm D _ h1
    have smU : Same (unT H' D) (unT H4 D) := fun b o e => by
      have hb : b ≠ D := fun z => by rw [z, unT_same] at e; cases e
      rw [unT_ne hb] at e ⊢
      exact sm b o e
    have R4 := R2.after (.of_same smU)
    have dp4 : Dp X.K (res (unT H4 D) (own τ σ ρ)) x ds[i] := dp_same (res_mono fun b o n e => ⟨fun z => n (.inl z), by rw [unT_ne fun z => n (.inr z)]; exact e⟩) _ _ hdp
    have dpw4 := dpAll_after (.of_same smU) h3
    have eK := isBlk_K hX'
    have SX' := isBlk_ok S hkd hX'
    refine wpG_hide h4D (hg X' SX' _ (wipeS ρ (own_.map (·.2))) _ c (fun j hj s hs => ?_) H0 γ (wipe σ (own_.map (·.2))) (unT H4 D) x (by rw [eK]; exact R4.wiped hno) (by rw [eK, own_wipe_eq hno]; exact dp4) (fun σ2 H2 => H2 = unT H4 D ∧ ∃ ρ2, Rep X.K τ H0 γ (unT H4 D) σ2 ρ2 ∧ own τ σ2 ρ2 = own τ σ ρ ∧ wipe σ2 (own_.map (·.2)) = wipe σ (own_.map (·.2)) ∧ tt ρ2 fun z => (z = true → te ρ2 fun y => lcC g tt te (fun acc => C (.lst acc)) (wipeS ρ (own_.map (·.2))) (ds.drop (i + 1)) (acc ++ [y])) ∧ (z = false → lcC g tt te (fun acc => C (.lst acc)) (wipeS ρ (own_.map (·.2))) (ds.drop (i + 1)) acc)) fun ρ2 σ2 c r2 no2 eo ew => ⟨rfl, ρ2, by rw [← eK]; exact r2, by rw [eo, own_wipe_eq hno], ?_, c⟩) fun σ2 H2 hn ⟨eH, ρ2, r2, eo, ew, c⟩ => ?_
    · rcases wipeS_get hs with rfl | ⟨q1, q2⟩
      · rfl
      · exact hno j hj s q1
    · rw [ew]
      apply List.ext_getElem?
      intro j
      by_cases hj : j ∈ own_.map (·.2)
      · rw [wipe_in hj, wipe_in hj, wipe_length]
      · simp only [wipe_out hj]
    · subst eH
      rw [upd_unT h4D]
      have ew' : wipe σ2 (own_.map (·.2)) = wipe σ (own_.map (·.2)) := ew
      refine ⟨ew', ?_⟩
      -- the tests
      have tests : ∀ (Q : Bool → Hp → Prop), (∀ z H5, H5 D = none → Ext τ (unT H4 D) H5 → ((z = true → te ρ2 fun y => lcC g tt te (fun acc => C (.lst acc)) (wipeS ρ (own_.map (·.2))) (ds.drop (i + 1)) (acc ++ [y])) ∧ (z = false → lcC g tt te (fun acc => C (.lst acc)) (wipeS ρ (own_.map (·.2))) (ds.drop (i + 1)) acc)) → Q z (upd H5 D (.lst ws))) → wtB X scope ifs σ2 H4 Q := by
        intro Q k
        cases ifs with
        | nil =>
          have c1 := ht X' SX' ρ2 _ c
          have := k true (unT H4 D) unT_same .refl c1
          rw [upd_unT h4D] at this
          exact this
        | cons cc rr =>
          cases rr with
          | nil =>
            intro X2 hX2
            have eK2 := isBlk_K hX2
            have S2 := isBlk_ok S hkd hX2
            have jt : JT τ X2 cc tt := ht X2 S2
            exact wpT_hide h4D (jt ρ2 _ c H0 γ σ2 (unT H4 D) (by rw [eK2]; exact r2) (fun z H5 => Ext τ (unT H4 D) H5 ∧ _) fun z H5 c e => ⟨e, c⟩) fun z H5 hn ⟨e, c⟩ => k z H5 hn e c
          | cons _ _ => exact (ht X' SX').elim
      refine tests _ fun z H5 hn5 e5 c => ?_
      have h5D : (upd H5 D (.lst ws)) D = some (.lst ws) := upd_same
      cases z with
      | false =>
        refine iteF ⟨acc, ws, h5D, ?_, ?_, by omega, c.2 rfl⟩
        · rw [unT_upd hn5]; exact (h2.trans (.of_same smU)).trans e5
        · rw [unT_upd hn5]; exact dpAll_after e5 dpw4
      | true =>
        refine iteT ?_
        intro X3 hX3
        have eK3 := isBlk_K hX3
        have S3 := isBlk_ok S hkd hX3
        refine wpE_hide h5D ?_ fun v H6 hn6 (h6 : ∃ d, Ext τ H5 H6 ∧ Dp X.K (res H6 (own τ σ ρ)) v d ∧ lcC g tt te (fun acc => C (.lst acc)) (wipeS ρ (own_.map (·.2))) (ds.drop (i + 1)) (acc ++ [d])) => ?_
        · rw [unT_upd hn5]
          refine he X3 S3 ρ2 _ (c.1 rfl) H0 γ σ2 H5 (by rw [eK3]; exact r2.after e5) _ fun d v H6 c e6 h6 => ⟨d, e6, ?_, c⟩
          rw [eK3, eo] at h6
          exact h6
        · obtain ⟨d, e6, d6, c6⟩ := h6
          refine ⟨ws, upd_same, ?_, acc ++ [d], ws ++ [v], upd_same, ?_, ?_, ?_, c6⟩
          · rw [dpAll_len h3]; omega
          · rw [upd_upd, unT_upd hn6]; exact ((h2.trans (.of_same smU)).trans e5).trans e6
          · rw [upd_upd, unT_upd hn6]; exact dpAll_append (dpAll_after e6 (dpAll_after e5 dpw4)) (.cons d6 .nil)
          · rw [List.length_append, List.length_singleton]; omega
  · rw [List.drop_of_length_le (by omega)] at c
    refine .inl ⟨⟨hdk, by omega⟩, q acc _ H' c ?_ ⟨D, ws, rfl, hD, h1, ?_⟩⟩
    · exact h2.trans (.of_same unT_le)
    · exact dpAll_same (res_mono fun b o n e => by
        have hb : b ≠ D := fun z => by rw [z, unT_same] at e; cases e
        exact ⟨fun z => z.elim n hb, unT_le b o e⟩) _ _ h3
theorem own_un {σ : St} {ρ : En} {i : Nat} {a : Addr} (h : own τ σ (ρ.set i .un) a) : own τ σ ρ a := by
  rcases h with z | ⟨j, u, h1, h2, h3⟩
  · exact .inl z
  · by_cases e : i = j
    · subst e
      by_cases hl : i < ρ.length
      · rw [List.getElem?_set_self hl] at h1
        cases h1
        cases h2
      · rw [List.getElem?_eq_none (by simp; omega)] at h1
        cases h1
    · exact .inr ⟨j, u, set_other e h1, h2, h3⟩
theorem own_but {σ : St} {ρ : En} {i : Nat} {p a : Addr} (hv : σ[i]? = some (some (.ref p))) (h : own τ σ ρ a) : own τ σ (ρ.set i .un) a ∨ a = p := by
  rcases h with z | ⟨j, u, h1, h2, h3⟩
  · exact .inl (.inl z)
  · by_cases e : i = j
    · subst e
      rw [hv] at h3
      cases h3
      exact .inr rfl
    · exact .inl (.inr ⟨j, u, by rw [List.getElem?_set_ne e]; exact h1, h2, h3⟩)
theorem not_own_un {K : PySem.W.Frag} {H0 H : Hp} {γ : List (V × D)} {σ : St} {ρ : En} {i : Nat} {p : Addr} {s : Sl} (r : Rep K τ H0 γ H σ ρ) (hi : ρ[i]? = some s) (hs : s.isOwn = true) (hv : σ[i]? = some (some (.ref p))) (hn : ¬ τ.ad p) : ¬ own τ σ (ρ.set i .un) p := fun h => by
  rcases h with z | ⟨j, u, h1, h2, h3⟩
  · exact hn z
  · by_cases e : i = j
    · subst e
      rw [List.getElem?_set_self (List.getElem?_eq_some_iff.mp hi).1] at h1
      cases h1
      cases h2
    · exact e (r.sep i j s u p hi (set_other e h1) hs h2 hv h3)
theorem Rep.lock {K : PySem.W.Frag} {H0 H : Hp} {γ : List (V × D)} {σ : St} {ρ : En} {i : Nat} {p : Addr} {od : Obj} {kds : List (Key × D)} {kvs : List (Key × V)} (r : Rep K τ H0 γ H σ ρ) (hi : ρ[i]? = some (.dic kds)) (hv : σ[i]? = some (some (.ref p))) (hn : ¬ τ.ad p) (h0 : H0 p = none) (hp : H p = some (.dK kvs)) : Rep K τ H0 γ (upd H p (.frz od (.dK kvs))) σ (ρ.set i .un) := by
  have op : own τ σ ρ p := .inr ⟨i, _, hi, rfl, hv⟩
  have no := not_own_un r hi rfl hv hn
  have le : Same (res H (own τ σ ρ)) (res (upd H p (.frz od (.dK kvs))) (own τ σ (ρ.set i .un))) := res_mono fun a u n e => by
    have hne : a ≠ p := fun z => n (by rw [z]; exact op)
    exact ⟨fun z => n (own_un z), by rw [upd_ne hne]; exact e⟩
  refine ⟨by simp [r.len], fun a u e n => ?_, ?_, fun j u hu => ?_, fun j l u w b h1 h2 h3 h4 h5 h6 => ?_, fun q hq => dp_same le _ _ (r.gh q hq), r.zz⟩
  · rw [upd_ne (ne_of_none e h0)]
    exact r.ext a u e n
  · refine τ.dep (fun a u ea ha => ?_) r.inv
    rw [upd_ne fun z => ?_]
    · exact ea
    · rcases ha with ha | ha
      · exact hn (by rw [← z]; exact ha)
      · rw [z, hp] at ea
        cases ea
        exact ha trivial
  · by_cases e : i = j
    · subst e
      rw [List.getElem?_set_self (List.getElem?_eq_some_iff.mp hi).1] at hu
      cases hu
      trivial
    · have hu' := set_other e hu
      refine SlOk.mono le (fun ho a o ev na ha => ?_) (r.sl j u hu')
      have hne : a ≠ p := fun z => by
        subst z
        rcases ev with ev | ⟨ws, eo⟩
        · exact e (r.sep i j _ u a hi hu' rfl ho hv ev)
        · rw [eo] at ha
          exact r.notL hi rfl hv ha
      rw [upd_ne hne]
      exact ha
  · by_cases e1 : i = j
    · subst e1
      rw [List.getElem?_set_self (List.getElem?_eq_some_iff.mp hi).1] at h1
      cases h1
      cases h3
    · by_cases e2 : i = l
      · subst e2
        rw [List.getElem?_set_self (List.getElem?_eq_some_iff.mp hi).1] at h2
        cases h2
        cases h4
      · exact r.sep j l u w b (set_other e1 h1) (set_other e2 h2) h3 h4 h5 h6
def eLcK (i : Nat) (g : UG) (tt : UT) (te : UV) (vs : List Nat) : UE := fun ρ C => match ρ[i]? with
  | some (.dic kds) => noOwn (ρ.set i .un) vs ∧ kds.length ≤ 1000000 ∧ lcC g tt te (fun acc => C (.lst acc)) (wipeS (ρ.set i .un) vs) (kds.map fun p => kD p.1) []
  | _ => False
theorem kv_keysD {K : PySem.W.Frag} {H : Hp} : ∀ {kvs : List (Key × V)} {kds : List (Key × D)}, KvOk K H kvs kds → (kds.map fun p => kD p.1) = kvs.map fun p => kD p.1
  | _, _, .nil => rfl
  | _, _, .cons h t => by
    rw [List.map_cons, List.map_cons, kv_keysD t, h.1]
theorem je_lcK {x : Str} {p2 : Pos} (own_ : List (Str × Nat)) (S : Ok cp G N sc k X) (i : Nat) (hg : ∀ X', Ok (capt scope) G N (relS scope sc) k X' → JGc (own_.map (·.2)) τ X' tg g) (ht : ∀ X', Ok (capt scope) G N (relS scope sc) k X' → JTs τ X' ifs tt) (he : ∀ X', Ok (capt scope) G N (relS scope sc) k X' → JD τ X' elt te)
    (hok : blkC N sc scope own_ = true := by decide +kernel) (hN : N[i]? = some x := by rfl) (hvis : Vis sc x := by first | exact Or.inl rfl | exact Or.inr (Or.inl rfl) | exact Or.inr (Or.inr rfl)) (hdb : (x == ("__debug__" : Str)) = false := by decide) (hcd : (x == ("__classdict__" : Str)) = false := by decide)
    (hs : ∀ y, foldedSetIterable (.Name x p2) X.env y = pure y := by intro _; rfl) : JE τ X (.ListComp elt [⟨tg, .Name x p2, ifs, 0⟩] scope pos) (eLcK i g tt te (own_.map (·.2))) := fun ρ C c H0 γ σ H r Q q => by
  unfold eLcK at c
  split at c
  · rename_i kds hi
    obtain ⟨hno, hkl, c⟩ := c
    obtain ⟨p, kvs, e0, h0, hn, h, h'⟩ := r.sl i _ hi
    have hpv := pe_var (X := X) (i := i) (x := x) (pos := p2) (by rw [S.eN]; exact hN) (by rw [S.es]; exact hvis) hdb hcd
    refine wpE_of (pe_lock (pe_lc (own := own_) S.calm (by rw [S.eN]; exact S.nd) pi_w (by rw [S.eN, S.es]; exact blkOk_by hok) (g := wgB X scope tg) (tt := wtB X scope ifs) (te := weB X scope elt) (fun s H C cl fp => ⟨fun pins s' σ H' v u Q I rv h => pg_w.run pins s' σ H' v u Q I rv (h _ ⟨s, H, C, cl, fp, rfl⟩)⟩) pts_B (fun s H C cl fp => ⟨fun pins s' σ H' Q I h => pe_w.run pins s' σ H' Q I (h _ ⟨s, H, C, cl, fp, rfl⟩)⟩) hs)) ⟨p, .dK kvs, h, trivial, fun od => ?_⟩
    have r1 := r.lock (od := od) hi e0 hn h0 h
    have no := not_own_un r hi rfl e0 hn
    refine lcK_read own_ S hg ht he (blkOk_by hok) (ρ.set i .un) C _ hno c H0 γ σ _ r1 p od kvs upd_same hn (kv_keysD h') (by rw [List.length_map]; exact small_line hkl) _ (fun acc v H2 c e hr => ?_) fun R hR => wpI_of (pi_keys hpv) ⟨_, e0, p, od, rfl, .inl ⟨kvs, upd_same, hR⟩⟩
    have h2d := e.kp p _ upd_same hn
    refine ⟨h2d, q _ v _ c ⟨fun a o ha na => ?_, fun iv => ?_⟩ ?_⟩
    · by_cases ea : a = p
      · subst ea
        rw [h] at ha
        cases ha
        exact upd_same
      · rw [upd_ne ea]
        exact e.kp a o (by rw [upd_ne ea]; exact ha) na
    · refine τ.dep (fun a u ea ha => ?_) (e.inv r1.inv)
      rw [upd_ne fun z => ?_]
      · exact ea
      · rcases ha with ha | ha
        · exact hn (by rw [← z]; exact ha)
        · rw [z, h2d] at ea
          cases ea
          exact ha trivial
    · obtain ⟨a, vs, rfl, ha, h3, h4⟩ := hr
      have hap : a ≠ p := fun z => by rw [z, upd_same] at ha; cases ha
      refine ⟨a, vs, rfl, by rw [upd_ne hap] at ha; exact ha, by rw [upd_ne hap]; exact h3, ?_⟩
      refine dpAll_same (fun b o e2 => ?_) _ _ (dpAll_off (od := od) (kvs := kvs) (d := p) (res_put (fun z => z.elim no fun z => hap z.symm) h2d) _ _ h4)
      have hb : b ≠ p := fun z => by rw [z, unT_same] at e2; cases e2
      rw [unT_ne hb] at e2
      obtain ⟨n1, n2, n3⟩ := res_some.mp e2
      exact res_put (fun z => z.elim (fun z => (own_but e0 z).elim (fun z => n1 (.inl z)) hb) fun z => n1 (.inr z)) (by rw [upd_ne hb]; exact n2) n3
  · exact c.elim
end
theorem c_eLcK {g : UG} {tt : UT} {te : UV} {vs : List Nat} {i : Nat} {ρ : En} {C : Rs → Prop} : eLcK i g tt te vs ρ C = kSl ρ[i]? fun kds => noOwn (ρ.set i .un) vs ∧ kds.length ≤ 1000000 ∧ lcC g tt te (fun acc => C (.lst acc)) (wipeS (ρ.set i .un) vs) (kds.map fun p => kD p.1) [] := by
  unfold eLcK kSl
  split <;> simp_all
end Pu
/-! ### dicts whose keys are tuples of ints and texts -/
namespace Pu
open PySem PySem.Spec PyProof.Rows L2 PySem.W
def tupK (k : List Key) : D := .tuple (k.map kD)
def keysT : List D → Option (List Key)
  | [] => some []
  | d :: ds => match keyD d, keysT ds with
    | some k, some ks => some (k :: ks)
    | _, _ => none
theorem keysT_dp {K : PySem.W.Frag} {H : Hp} : ∀ {ds : List D} {ks : List Key} {vs : List V}, keysT ds = some ks → DpAll K H vs ds → vs = ks.map kV
  | [], ks, vs, e, h => by
    cases e
    cases h
    rfl
  | d :: ds, ks, vs, e, h => by
    unfold keysT at e
    split at e
    · rename_i k ks' e1 e2
      cases e
      cases h with
      | cons h1 h2 => rw [keysT_dp e2 h2, dp_key h1 e1]; rfl
    · cases e
section
variable {α : Type} [DecidableEq α]
def putT (kds : List (α × D)) (k : α) (d : D) : List (α × D) :=
  if (kds.any fun kv => decide (kv.1 = k)) = true then kds.map (fun kv => if kv.1 = k then (kv.1, d) else kv) else kds ++ [(k, d)]
theorem kt_any {K : PySem.W.Frag} {H : Hp} {k : α} : ∀ {kvs : List (α × V)} {kds : List (α × D)}, KvOk K H kvs kds → (kvs.any fun kv => decide (kv.1 = k)) = (kds.any fun kv => decide (kv.1 = k))
  | _, _, .nil => rfl
  | _, _, .cons h t => by rw [List.any_cons, List.any_cons, kt_any t, h.1]
theorem kt_map {K : PySem.W.Frag} {H : Hp} {k : α} {v : V} {d : D} (hd : Dp K H v d) : ∀ {kvs : List (α × V)} {kds : List (α × D)}, KvOk K H kvs kds → KvOk K H (kvs.map fun kv => if kv.1 = k then (kv.1, v) else kv) (kds.map fun kv => if kv.1 = k then (kv.1, d) else kv)
  | _, _, .nil => .nil
  | p :: _, q :: _, .cons h t => by
    refine .cons ?_ (kt_map hd t)
    dsimp only
    by_cases e : p.1 = k
    · rw [if_pos e, if_pos (h.1 ▸ e)]
      exact ⟨h.1, hd⟩
    · rw [if_neg e, if_neg (fun z => e (h.1.trans z))]
      exact h
theorem kt_app {K : PySem.W.Frag} {H : Hp} {k : α} {v : V} {d : D} (hd : Dp K H v d) : ∀ {kvs : List (α × V)} {kds : List (α × D)}, KvOk K H kvs kds → KvOk K H (kvs ++ [(k, v)]) (kds ++ [(k, d)])
  | _, _, .nil => .cons ⟨rfl, hd⟩ .nil
  | _, _, .cons h t => .cons h (kt_app hd t)
theorem kt_put {K : PySem.W.Frag} {H : Hp} {k : α} {v : V} {d : D} {kvs : List (α × V)} {kds : List (α × D)} (h : KvOk K H kvs kds) (hd : Dp K H v d) : KvOk K H (putK kvs k v) (putT kds k d) := by
  unfold putK putT
  rw [kt_any h]
  split
  · exact kt_map hd h
  · exact kt_app hd h
theorem kt_len {K : PySem.W.Frag} {H : Hp} : ∀ {kvs : List (α × V)} {kds : List (α × D)}, KvOk K H kvs kds → kvs.length = kds.length
  | _, _, .nil => rfl
  | _, _, .cons h t => by simp [kt_len t]
end
section
variable {X : Cx} {pins : List (Addr × Obj)} {σ : St} {H : Hp} {s : Shared} {p : Addr}
/-- the empty dict is one of tuple keys, too -/
theorem inv_toT (I : Inv X pins σ H s) (h : H p = some (.dK [])) : Inv X pins σ (upd H p (.dT [])) s := by
  have neH : ∀ b u, H b = some u → u ≠ .dK [] → b ≠ p := fun b u e q z => by
    rw [z, h] at e
    exact q (Option.some.inj e).symm
  have neN : ∀ b, H b = none → b ≠ p := fun b e z => by rw [z, h] at e; cases e
  refine ⟨I.ok, I.os, I.bare, ⟨I.base.keep, I.base.slot, fun b o e n hx => ?_, I.base.there, fun b xs e => ?_, fun b o x e => ?_, fun b ps e => ?_⟩, I.loc, I.cell, ?_, fun x c e => ?_, fun q hq => ?_, fun b o e => ?_, I.len⟩
  · rw [upd_ne (neN b (I.base.free b o e n hx))]; exact I.base.free b o e n hx
  · have q := I.base.tups b xs e
    rw [upd_ne (neH b _ q (fun z => by cases z))]; exact q
  · have q := I.base.frzs b o x e
    rw [upd_ne (neH b _ q (fun z => by cases z))]; exact q
  · obtain ⟨m, q⟩ := I.base.tbls b ps e
    exact ⟨m, by rw [upd_ne (neH b _ q (fun z => by cases z))]; exact q⟩
  · rw [upd_ne (neN _ I.free)]; exact I.free
  · rw [upd_ne (neN c (I.freeC x c e))]; exact I.freeC x c e
  · obtain ⟨e, n, r⟩ := I.pin q hq
    exact ⟨e, by rw [upd_ne (neN _ n)]; exact n, r⟩
  · by_cases hb : b = p
    · rw [hb, upd_same] at e
      cases e
      rw [hb]
      obtain ⟨z, y, vs, kv, ob, es, ep, ho, hx, hdt, r⟩ := I.hok p _ h
      cases kv
      refine ⟨z, y, [], .nil, ob, es, ep, ho, hx, hdt, ?_, List.nodup_nil⟩
      have l1 := r.2.1.length
      simp only [List.length_nil] at l1
      exact List.eq_nil_of_length_eq_zero l1
    · rw [upd_ne hb] at e
      exact (I.hok b o e).stay (fun c v _ q => q) (fun c q => by rw [upd_ne (neH c _ q (fun z => nomatch z))]; exact q) fun c xs q => by rw [upd_ne (neH c _ q (fun z => nomatch z))]; exact q
theorem wpS_toT {st : Stmt} {D : Ends} (h : H p = some (.dK [])) (q : wpS X st D σ (upd H p (.dT []))) : wpS X st D σ H := by
  unfold wpS at q ⊢
  exact fun pins s I => q pins s (inv_toT I h)
end
/-! sorted(d) -/
theorem isKeys_dp {K : PySem.W.Frag} {H : Hp} : ∀ {kvs : List (List Key × V)} {bs : List Addr}, IsKeys H kvs bs → (∀ p ∈ kvs, p.1 ≠ []) → ∀ H' : Hp, (∀ b xs, NPh xs → H b = some (.tup xs) → H' b = some (.tup xs)) → DpAll K H' (bs.map V.ref) (kvs.map fun p => tupK p.1)
  | _, _, .nil, _, _, _ => .nil
  | p :: _, _, .cons h t, hn, H', hs => by
    have np : NPh (p.1.map kV) := by
      have := hn p (List.mem_cons_self ..)
      cases e : p.1 with
      | nil => exact absurd e this
      | cons k ks =>
        refine ⟨kV k, rfl, fun b z => ?_⟩
        cases k <;> cases z
    refine .cons (.tup (.inl (.inl (hs _ _ np h))) ?_) (isKeys_dp t (fun q hq => hn q (List.mem_cons_of_mem _ hq)) H' hs)
    generalize p.1 = ks
    induction ks with
    | nil => exact .nil
    | cons k ks ih =>
      refine .cons ?_ ih
      cases k
      · exact .int _
      · exact .str _
def rSortT (K : PySem.W.Frag) : List V → Hp → VK → Prop := fun vs H Q => ∃ (a : Addr) (kvs : List (List Key × V)) (ds : List D), vs = [V.ref a] ∧ Rd H a (.dT kvs) ∧ (∀ p ∈ kvs, p.1 ≠ []) ∧ (kvs.map fun p => tupK p.1) = ds ∧ AllAlike ds ∧ Sortable ds ∧ (∀ d ∈ ds, d.depth ≤ 32) ∧
  ∀ ys p, (∀ H' : Hp, (∀ b xs, NPh xs → H b = some (.tup xs) → H' b = some (.tup xs)) → DpAll K H' ys (ds.mergeSort dLe)) → H p = none → Q (.ref p) (upd H p (.lst ys))
section
variable {X : Cx}
theorem cr_sortT (hc : X.calm = true) (hu : X.A.units + 65 < cLine) : CallR X (.builtin "sorted") (rSortT X.K) := by
  intro pins s σ H vs us Q I r h
  obtain ⟨a, kvs, ds, rfl, hd, hnk, hds, hal, hk, hdep, q⟩ := h
  obtain ⟨u, rfl, ru⟩ := vals1 r
  obtain rfl : u = Value.ref a := ru
  obtain ⟨z, hs, ks, pr, o, es, ep, ho, hx, hdt, he, hn⟩ := (show ObjOk X.prog X.w H s.heap a (.dT kvs) from hd.ok I.hok)
  have l1 : es.size = ks.length := size_of_entries he
  have l2 : kvs.length = ks.length := Paired.length pr
  refine Calls.call_function_entry kind_sorted plain_sorted entry_sorted (args_sorted1 _) ?_
  unfold Builtin.«sorted»
  refine wpAny_bind (m := checkCount "sorted" 1 1 _) (wpAny_pure ?_)
  refine wpAny_bind (PySem.W.kdu_collect (A := X.A.in1) (kdl_raw hs hx hdt) (I.ok.hd hc) ho (by omega) fun h' tk acc kp it => ?_)
  have ea : acc.toList = ks.map fun x => Value.ref x.2.1 := by
    have hl : acc.toList.length = ks.length := by rw [Array.length_toList, it.1]; exact l1
    apply List.ext_getElem?
    intro j
    rw [List.getElem?_map]
    cases hj : acc.toList[j]? with
    | none =>
      have h1 := List.getElem?_eq_none_iff.mp hj
      rw [List.getElem?_eq_none (by omega)]
      all_goals rfl
    | some v =>
      obtain ⟨en, hen, hv⟩ := it.2 j v (by rw [← Array.getElem?_toList]; exact hj)
      have qe := entry_at he j
      rw [hen] at qe
      cases hb : ks[j]? with
      | none =>
        rw [hb] at qe
        exact nomatch (show some en = none from qe)
      | some b =>
        rw [hb] at qe
        have e2 : en = entryOfKey (tupleKind (mixKind X.prog X.w)) b := Option.some.inj qe
        rw [hv, e2]
        all_goals rfl
  have eb : acc.toList = (ks.map fun x => x.2.1).map Value.ref := by rw [ea, List.map_map]; all_goals rfl
  obtain ⟨bs, hbs⟩ : ∃ bs, (ks.map fun x => x.2.1) = bs := ⟨_, rfl⟩
  have ik : IsKeys H kvs bs := hbs ▸ isKeys_of pr
  rw [hbs] at eb
  have rv : Vals (bs.map V.ref) acc.toList := by rw [eb]; exact L2.vals_refs _
  have hlb : bs.length = kvs.length := by rw [← hbs, List.length_map, l2]
  have hdd : DpAll X.K H (bs.map V.ref) ds := hds ▸ isKeys_dp ik hnk H fun _ _ _ e => e
  have hdl := dpAll_len hdd
  have hzi : acc.toList.length ≤ sizeLine := by rw [eb, List.length_map]; omega
  obtain ⟨xs, hxs⟩ : ∃ xs, bs.map V.ref = xs := ⟨_, rfl⟩
  rw [hxs] at rv hdd hdl
  have hxl : xs.length ≤ sizeLine := by rw [← hxs, List.length_map]; omega
  obtain ⟨its, hits⟩ : ∃ its, acc.toList = its := ⟨_, rfl⟩
  rw [hits] at rv hzi ⊢
  obtain ⟨z1, z2, z3⟩ := zip_dpAll hdd
  refine wpAny_bind (wpAny_newList ?_ hzi)
  have hoL : (h'.push (seqObj "list" its.toArray 0)).get? h'.objs.size = some (seqObj "list" its.toArray 0) := Heap.get?_push_size _ rfl
  have hkeep : ∀ b o', s.heap.get? b = some o' → (h'.push (seqObj "list" its.toArray 0)).get? b = some o' := fun b o' e => Heap.get?_push_of_some _ (kp b o' e)
  have e1 : EachIs (fun u (p : V × D) => RelV p.1 u) its (xs.zip ds) := each_zip rv hdl fun v d u _ h => h
  have e2 : EachIs (fun u (p : V × D) => ∃ as, Reads (h'.push (seqObj "list" its.toArray 0)) u p.2 as ∧ h'.objs.size ∉ as) its (xs.zip ds) := each_zip rv hdl fun v d u hm hr => by
    obtain ⟨as, rd⟩ := Dp.reads I d v u (z1 _ hm) hr
    refine ⟨as, PyProof.Rows.Reads.keeps (fun _ _ => hkeep _ _) rd, fun hin => ?_⟩
    obtain ⟨o', ho'⟩ := PyProof.On.reads_mem_get rd _ hin
    exact absurd (Heap.lt_size (kp _ _ ho')) (Nat.lt_irrefl _)
  have hal' : AllAlike ((xs.zip ds).map Prod.snd) := by rw [z2]; exact hal
  have hk' : Sortable ((xs.zip ds).map Prod.snd) := by rw [z2]; exact hk
  show wpAny _ _ _ _ _ { s with heap := h'.push (seqObj "list" its.toArray 0), toks := tk }
  refine wpAny_bind (wpAny_holding (list_sort_data (R := fun u (p : V × D) => RelV p.1 u) (enc := Prod.snd) (s := { s with heap := h'.push (seqObj "list" its.toArray 0), toks := tk }) hoL e1 e2 hal' hk' (by rw [List.length_zip]; omega) (fun p hp => ?_) fun out ho1 ho2 => ?_))
  · have hm : p.2 ∈ ds := by
      rw [← z2]
      exact List.mem_map_of_mem (f := Prod.snd) hp
    have h1 := hdep _ hm
    have h2 : X.A.in1.units = X.A.units + 1 := rfl
    rw [h2]
    omega
  · have I1 : L2.Inv X pins σ H { s with heap := h', toks := tk } := I.kept kp
    have hsz : h'.objs.size < (h'.push (seqObj "list" its.toArray 0)).objs.size := by rw [size_push']; omega
    have k3 : ∀ b u, h'.get? b = some u → (sortedHeap (h'.push (seqObj "list" its.toArray 0)) h'.objs.size its out.toArray).get? b = some u := fun b u e => by
      have hlt := Heap.lt_size e
      rw [sortedHeap_old (Nat.ne_of_lt hlt) (Nat.lt_trans hlt hsz)]
      exact Heap.get?_push_of_some _ e
    obtain ⟨n2, hn2⟩ := sortedHeap_at (out := out.toArray) hoL
    have hv : Vals (((xs.zip ds).mergeSort (dataLe false Prod.snd)).map Prod.fst) out := vals_each ho2
    refine wpAny_pure ⟨_, rfl, .ref h'.objs.size, upd H h'.objs.size (.lst (((xs.zip ds).mergeSort (dataLe false Prod.snd)).map Prod.fst)), I1.laid (t' := tk) k3 (Nat.le_refl _) ⟨?_, out, n2, hv, hn2⟩, rfl, q _ _ (fun H' hd' => ?_) (I1.hok.fresh (Nat.le_refl _))⟩
    · rw [List.length_map, List.length_mergeSort, List.length_zip]
      omega
    · have hd2 : DpAll X.K H' xs ds := by
        have := isKeys_dp (K := X.K) ik hnk H' hd'
        rw [hxs, hds] at this
        exact this
      obtain ⟨w1, w2, w3⟩ := zip_dpAll hd2
      have e5 : ds.mergeSort dLe = ((xs.zip ds).mergeSort (dataLe false Prod.snd)).map Prod.snd := by
        have := List.map_mergeSort (r := dataLe false Prod.snd) (s := dLe) (f := Prod.snd) (l := xs.zip ds) (fun a _ b _ => rfl)
        rw [this, w2]
      rw [e5]
      exact dpAll_of fun p hp => w1 p (List.mem_mergeSort.mp hp)
end
section
variable {τ : Tn} {G : Gx} {cp : List Str} {N : List Str} {sc : Scope} {k : Nat} {X : Cx} {e value : Expr} {es : List Expr} {tk : UL} {tv : UV} {x : Str} {p p1 p2 p3 p4 p5 pos : Pos} {j1 : Nat}
/-! x[(a, b)] = v -/
def sPutT0 (i : Nat) (tk : UL) (tv : UV) : US := fun E ρ => match ρ[i]? with
  | some (.dtc kds) => tv ρ fun d => tk ρ fun ds => ∃ k, keysT ds = some k ∧ kds.length < 1000000 ∧ E.nx (ρ.set i (.dtc (putT kds k d)))
  | _ => False
def sDPutT (i : Nat) (tk : UL) (tv : UV) : US := fun E ρ => match ρ[i]? with
  | some (.dic []) => sPutT0 i tk tv E (ρ.set i (.dtc []))
  | _ => sPutT0 i tk tv E ρ
theorem js_putT0 (S : Ok cp G N sc k X) (i : Nat) (hk : JDs τ X es tk) (hv : JD τ X value tv) (hN : N[i]? = some x := by rfl) (hvis : Vis sc x := by first | exact Or.inl rfl | exact Or.inr (Or.inl rfl) | exact Or.inr (Or.inr rfl)) (hd : (x == ("__debug__" : Str)) = false := by decide) (hcd : (x == ("__classdict__" : Str)) = false := by decide)
    (hsw : swapsWith value (some (.Subscript (.Name x p1) (.Tuple es j1 p2) p3)) pos.line X.env = pure false := by rfl) (hl : es.length ≤ 1000 := by decide) :
    JS τ X (.Assign [.Subscript (.Name x p1) (.Tuple es j1 p2) p3] value pos) (sPutT0 i tk tv) := fun ρ E c H0 γ σ H r Dn d => by
  refine wpS_of (ps_dput (by have := S.room.un; omega) (pe_var (i := i) (by rw [S.eN]; exact hN) (by rw [S.es]; exact hvis) hd hcd) (pe_tup pa_w) pe_w hsw) ?_
  unfold sPutT0 at c
  split at c
  · rename_i kds hi
    refine hv ρ _ c H0 γ σ H r _ fun d1 v1 H1 c e1 b1 => ?_
    obtain ⟨a, kvs, e0, h0, hn, h, h'⟩ := r.sl i _ hi
    refine ⟨_, e0, hk ρ _ c H0 γ σ H1 (r.after e1) _ fun ds vs H2 el c e2 b2 => ⟨by rw [dpAll_len b2, el]; exact small_line (by omega), fun q hq => ?_⟩⟩
    obtain ⟨kk, hkk, hlen, c⟩ := c
    have ev := keysT_dp hkk b2
    subst ev
    have e3 := (e1.trans e2).trans (Ext.new (τ := τ) (o := .tup (kk.map kV)) hq)
    have r3 := r.after e3
    have ha := e3.kp a _ h hn
    have hk3 := KvOk.same (res_ext e3 fun _ => own_ad) h'
    refine ⟨a, _, rfl, DPut.t ha upd_same (Nat.lt_of_lt_of_le (by rw [kt_len h']; exact hlen) (by decide)), ?_⟩
    exact d.nx _ _ _ c (r3.change hi rfl rfl e0 hn h0 ⟨a, _, rfl, h0, hn, upd_same, kt_put hk3 (dp_after (e2.trans (Ext.new hq)) b1)⟩)
  · exact c.elim
theorem js_dputT (S : Ok cp G N sc k X) (i : Nat) (hk : JDs τ X es tk) (hv : JD τ X value tv) (hN : N[i]? = some x := by rfl) (hvis : Vis sc x := by first | exact Or.inl rfl | exact Or.inr (Or.inl rfl) | exact Or.inr (Or.inr rfl)) (hd : (x == ("__debug__" : Str)) = false := by decide) (hcd : (x == ("__classdict__" : Str)) = false := by decide)
    (hsw : swapsWith value (some (.Subscript (.Name x p1) (.Tuple es j1 p2) p3)) pos.line X.env = pure false := by rfl) (hl : es.length ≤ 1000 := by decide) :
    JS τ X (.Assign [.Subscript (.Name x p1) (.Tuple es j1 p2) p3] value pos) (sDPutT i tk tv) := fun ρ E c H0 γ σ H r Dn d => by
  unfold sDPutT at c
  split at c
  · rename_i hi
    obtain ⟨a, kvs, e0, h0, hn, h, h'⟩ := r.sl i _ hi
    cases h'
    exact wpS_toT h (js_putT0 S i hk hv hN hvis hd hcd hsw hl _ E c H0 γ σ _ (r.change hi rfl rfl e0 hn h0 ⟨a, _, rfl, h0, hn, upd_same, .nil⟩) Dn d)
  · exact js_putT0 S i hk hv hN hvis hd hcd hsw hl ρ E c H0 γ σ H r Dn d
/-! sorted(x), x a dict of one's own with ints, or with tuples, for keys -/
def eSortKT (i : Nat) : UE := fun ρ C => match ρ[i]? with
  | some (.dtc kds) => (∀ p ∈ kds, p.1 ≠ []) ∧ SortOk (kds.map fun p => tupK p.1) ∧ C (.lst ((kds.map fun p => tupK p.1).mergeSort dLe))
  | _ => eSortKL i ρ C
theorem kt_keys {K : PySem.W.Frag} {H : Hp} : ∀ {kvs : List (List Key × V)} {kds : List (List Key × D)}, KvOk K H kvs kds → (kvs.map fun p => tupK p.1) = kds.map fun p => tupK p.1
  | _, _, .nil => rfl
  | _, _, .cons h t => by rw [List.map_cons, List.map_cons, kt_keys t, h.1]
theorem kt_ne {K : PySem.W.Frag} {H : Hp} : ∀ {kvs : List (List Key × V)} {kds : List (List Key × D)}, KvOk K H kvs kds → (∀ p ∈ kds, p.1 ≠ []) → ∀ p ∈ kvs, p.1 ≠ []
  | _, _, .nil, _ => fun p hp => by cases hp
  | _, _, .cons h t, hn => fun p hp => by
    rcases List.mem_cons.mp hp with rfl | hp
    · rw [h.1]; exact hn _ (List.mem_cons_self ..)
    · exact kt_ne t (fun q hq => hn q (List.mem_cons_of_mem _ hq)) p hp
theorem je_sortKT (S : Ok cp G N sc k X) (i : Nat) (hm : Free G "sorted") (hN : N[i]? = some x := by rfl) (hvis : Vis sc x := by first | exact Or.inl rfl | exact Or.inr (Or.inl rfl) | exact Or.inr (Or.inr rfl)) (hd : (x == ("__debug__" : Str)) = false := by decide) (hcd : (x == ("__classdict__" : Str)) = false := by decide)
    (hg : sc.names.lookup ("sorted" : Str) = some .globalImplicit := by rfl) : JE τ X (.Call (.Name "sorted" p2) [.Name x p3] [] pos) (eSortKT i) := fun ρ C c H0 γ σ H r Q q => by
  unfold eSortKT at c
  split at c
  · rename_i kds hi
    refine wpE_of (pe_callB (cr_sortT S.calm (units65 S.room)) (by show X.env.scope.names.lookup ("sorted" : Str) = _; rw [S.es]; exact hg) (by rw [S.em]; exact hm) (by decide +kernel : bootBuiltins "sorted" = some (.builtin "sorted")) (pa_cons (pe_var (i := i) (by rw [S.eN]; exact hN) (by rw [S.es]; exact hvis) hd hcd) pa_nil (by rfl)) (by decide) (by decide) (by rfl) (by rfl)) ?_
    obtain ⟨a, kvs, e0, h0, hn, h, h'⟩ := r.sl i _ hi
    refine ⟨_, e0, a, kvs, _, rfl, .inl h, kt_ne h' c.1, kt_keys h', c.2.1.2.1, c.2.1.2.2, c.2.1.dep, fun ys l hy hl => q _ _ _ c.2.2 (.new hl) (new_lst r hl (hy _ fun b xs nb eb => ?_))⟩
    refine res_put (fun z => ?_) eb nb
    obtain ⟨o, e', m⟩ := r.ownMut z
    rw [eb] at e'; cases e'
    exact m
  · exact je_sortKL S i hm hN hvis hd hcd hg ρ C c H0 γ σ H r Q q
variable {ρ : En} {E : Ed} {C : Rs → Prop} {i : Nat}
/-- lemmas for the math -/
def tkSl : Option Sl → (List (List Key × D) → Prop) → Prop
  | some (.dtc kds), C => C kds
  | some (.dic []), C => C []
  | _, _ => False
theorem tkSl_t {kds : List (List Key × D)} {C : List (List Key × D) → Prop} : tkSl (some (.dtc kds)) C = C kds := rfl
theorem tkSl_0 {C : List (List Key × D) → Prop} : tkSl (some (.dic [])) C = C [] := rfl
theorem c_sDPutT_t {kds : List (List Key × D)} (h : ρ[i]? = some (.dtc kds)) : sDPutT i tk tv E ρ = tv ρ fun d => tk ρ fun ds => ∃ k, keysT ds = some k ∧ kds.length < 1000000 ∧ E.nx (ρ.set i (.dtc (putT kds k d))) := by
  unfold sDPutT sPutT0
  rw [h]
theorem c_sDPutT_0 (h : ρ[i]? = some (.dic [])) : sDPutT i tk tv E ρ = sDPutT i tk tv E (ρ.set i (.dtc [])) := by
  have hl : i < ρ.length := (List.getElem?_eq_some_iff.mp h).1
  have e : (ρ.set i (.dtc []))[i]? = some (.dtc []) := List.getElem?_set_self hl
  rw [c_sDPutT_t e]
  unfold sDPutT sPutT0
  rw [h]
  simp only [e]
theorem c_eSortKT_t {kds : List (List Key × D)} (h : ρ[i]? = some (.dtc kds)) : eSortKT i ρ C = ((∀ p ∈ kds, p.1 ≠ []) ∧ SortOk (kds.map fun p => tupK p.1) ∧ C (.lst ((kds.map fun p => tupK p.1).mergeSort dLe))) := by
  unfold eSortKT
  rw [h]
theorem c_eSortKT_k {kds : List (Key × D)} (h : ρ[i]? = some (.dic kds)) : eSortKT i ρ C = eSortKL i ρ C := by
  unfold eSortKT
  rw [h]
end
end Pu
/-! ### y = {k: v for ..} on one line, y a local -/
namespace Pu
open PySem PySem.Spec PyProof.Rows L2 PySem.W
theorem ps_setDc {X : Cx} {i : Nat} {y : Str} {py : Pos} {kx vx tg iter : Expr} {ifs : List Expr} {scope : Scope} {own : List (Str × Nat)} {pos spos : Pos} {wi : TI} {g : TG} {tt : TT} {tk tv : TE} (hc : X.calm = true) (hN : X.N.Nodup) (hy : X.N[i]? = some y) (hyl : X.env.scope.names.lookup y = some .local)
    (hsw : swapsWith (.DictComp kx vx [⟨tg, iter, ifs, 0⟩] scope pos) (some (.Name y py)) spos.line X.env = pure true) (hi : PI X tg iter wi) (ok : BlkOk X.N X.env.scope scope own)
    (hg : ∀ (s : Shared) (H : Hp) (C : Addr) (cl : List (Str × Addr)) (fp : List Addr), PG (X.blk s H scope (compEnvC scope cl C X.env) fp) tg g) (ht : ∀ (s : Shared) (H : Hp) (C : Addr) (cl : List (Str × Addr)) (fp : List Addr), PTs (X.blk s H scope (compEnvC scope cl C X.env) fp) ifs tt)
    (hk : ∀ (s : Shared) (H : Hp) (C : Addr) (cl : List (Str × Addr)) (fp : List Addr), PE (X.blk s H scope (compEnvC scope cl C X.env) fp) kx tk)
    (he : ∀ (s : Shared) (H : Hp) (C : Addr) (cl : List (Str × Addr)) (fp : List Addr), PE (X.blk s H scope (compEnvC scope cl C X.env) fp) vx tv) (hs : ∀ x, foldedSetIterable iter X.env x = pure x := by intro _; rfl) :
    PS X (.Assign [.Name y py] (.DictComp kx vx [⟨tg, iter, ifs, 0⟩] scope pos) spos) (tAsg (tDc wi g tt tk tv (own.map (·.2))) (gName i)) := by
  refine ⟨fun pins s σ H D I h => ?_⟩
  rw [exec_Assign_Name_used _ _ _ _ hsw]
  refine wpAny_bind (wpAny_standAt (wpAny_bind ?_))
  show wpAny _ X.A (do let _ ← comprehension (.DictComp kx vx [⟨tg, iter, ifs, 0⟩] scope pos) scope X.env (firstIterPos [⟨tg, iter, ifs, 0⟩] pos) newDict false (eval iter X.env) (some (assign (.Name y py) X.env))) _ _ s
  have h : tDc wi g tt tk tv (own.map (·.2)) σ H (fun x H1 => gName i x σ H1 D.nx) := h
  refine wpAny_bind (thn (dc_core (Qf := fun _ s' => SP X pins D .next s') hc hN I hi ok hg ht hk he hs h fun L C s' m H' I' q hn f => ?_) fun _ s' hq => wpAny_pure (wpAny_pure hq))
  show wpAny _ _ (assign (.Name y py) X.env (.ref L)) _ _ _
  refine wpAny_assign_Name (store_ok2 (v := V.ref L) I' hN hy (.inl hyl) rfl (fun s2 I2 ⟨a, sb, ha⟩ => ?_) (.inr hyl))
  obtain ⟨f0, f1, f2, f3, f4, f5⟩ := f
  have haC : C ≠ a := by
    rcases ha with z | z
    · rw [z]; exact f1
    · exact fun e => f4 y a z e.symm
  refine ⟨m, hn.sameBut sb haC, fun h3 sb3 => ?_⟩
  exact ⟨_, H', I2.turned (t' := s2.toks) (fun b o hb e => (sb3.2 b hb).trans e) f0 f1 f3 f4 f5, q⟩
theorem sw_trueDc {kx elt : Expr} {gs : List Comprehension} {scope : Scope} {pos py : Pos} {y : Str} {l : Nat} {env : Env} (hk : env.scope.kind = .function) (hy : env.scope.names.lookup y = some .local) (hl : (py.line == pos.line) = true)
    (ha : (scope.names.any fun (n, k) => n == y && (k == .local || k == .cell)) = false) : swapsWith (.DictComp kx elt gs scope pos) (some (.Name y py)) l env = pure true := by
  have ky : env.kindOf y = some .local := hy
  have hb : env.blockKind = .function := by unfold Env.blockKind; rw [hk]; rfl
  unfold swapsWith
  simp only [hb, ky, ha, Expr.pos, hl]
  rfl
section
variable {τ : Tn} {G : Gx} {cp : List Str} {N : List Str} {sc scope : Scope} {k : Nat} {X : Cx} {tg iter kx elt : Expr} {ifs : List Expr} {g : UG} {tt : UT} {tk te : UV} {ti : UL} {pos : Pos}
theorem js_setDc {y : Str} {py spos : Pos} (own_ : List (Str × Nat)) (S : Ok cp G N sc k X) (i : Nat) (hi : JIx τ X tg iter ti) (hg : ∀ X', Ok (capt scope) G N (relS scope sc) k X' → JGc (own_.map (·.2)) τ X' tg g) (ht : ∀ X', Ok (capt scope) G N (relS scope sc) k X' → JTs τ X' ifs tt) (hkx : ∀ X', Ok (capt scope) G N (relS scope sc) k X' → JD τ X' kx tk) (he : ∀ X', Ok (capt scope) G N (relS scope sc) k X' → JD τ X' elt te)
    (hok : blkC N sc scope own_ = true := by decide +kernel) (hN : N[i]? = some y := by rfl) (hy : sc.names.lookup y = some .local := by rfl) (hl : (py.line == pos.line) = true := by rfl)
    (ha : (scope.names.any fun (n, k) => n == y && (k == .local || k == .cell)) = false := by decide +kernel) (hs : ∀ x, foldedSetIterable iter X.env x = pure x := by intro _; rfl) :
    JS τ X (.Assign [.Name y py] (.DictComp kx elt [⟨tg, iter, ifs, 0⟩] scope pos) spos) (sSet i (eDc ti g tt tk te (own_.map (·.2)))) := fun ρ E c H0 γ σ H r Dn d =>
  wpS_of (ps_setDc (i := i) (own := own_) S.calm (by rw [S.eN]; exact S.nd) (by rw [S.eN]; exact hN) (by rw [S.es]; exact hy) (sw_trueDc (by rw [S.es]; exact S.kd) (by rw [S.es]; exact hy) hl ha) pi_w (by rw [S.eN, S.es]; exact blkOk_by hok) (g := wgB X scope tg) (tt := wtB X scope ifs) (tk := weB X scope kx) (tv := weB X scope elt) (fun s H C cl fp => ⟨fun pins s' σ H' v u Q I rv h => pg_w.run pins s' σ H' v u Q I rv (h _ ⟨s, H, C, cl, fp, rfl⟩)⟩) pts_B (fun s H C cl fp => ⟨fun pins s' σ H' Q I h => pe_w.run pins s' σ H' Q I (h _ ⟨s, H, C, cl, fp, rfl⟩)⟩) (fun s H C cl fp => ⟨fun pins s' σ H' Q I h => pe_w.run pins s' σ H' Q I (h _ ⟨s, H, C, cl, fp, rfl⟩)⟩) hs)
    (dc_read own_ S hi hg ht hkx he (blkOk_by hok) ρ _ c H0 γ σ H r _ fun rs v H2 c e h => d.nx _ _ H2 c (r.set e h))
/-! xs[:n], n perhaps None -/
def fOpt : D → (Option Int → Prop) → Prop
  | .int i, C => C (some i)
  | .none, C => C none
  | _, _ => False
def oOpt (t : UV) : UO := fun ρ C => t ρ fun d => fOpt d C
theorem po_opt {e : Expr} {te : TE} (h : PE X e te) : PO X (some e) (fun σ H Q => te σ H fun x H1 => (∃ i, x = .int i ∧ Q (some i) H1) ∨ (x = .non ∧ Q none H1)) := by
  refine ⟨fun pins s σ H Q I hw => ?_⟩
  rw [evalPart_some]
  refine thn (h.run pins s σ H _ I hw) fun u s1 ⟨x, H1, I1, r1, q1⟩ => ?_
  rcases q1 with ⟨i, rfl, q⟩ | ⟨rfl, q⟩
  · obtain ⟨t, rfl⟩ := r1
    exact ⟨some i, H1, I1, .int i t, q⟩
  · obtain rfl : u = Value.none := r1
    exact ⟨none, H1, I1, .none, q⟩
theorem jo_opt {a : Expr} {t : UV} (ha : JV τ X a t) : JO τ X (some a) (oOpt t) := ⟨_, po_opt pe_w, fun ρ C c H0 γ σ H r Q q => ha ρ _ c H0 γ σ H r _ fun d v H2 c e b => by
  cases d with
  | int i =>
    cases b
    exact .inl ⟨i, rfl, q _ H2 c e⟩
  | none =>
    cases b
    exact .inr ⟨rfl, q _ H2 c e⟩
  | bool _ => exact c.elim
  | str _ => exact c.elim
  | list _ => exact c.elim
  | tuple _ => exact c.elim
  | dict _ => exact c.elim⟩
theorem c_oOpt {t : UV} {ρ : En} {C : Option Int → Prop} : oOpt t ρ C = t ρ fun d => fOpt d C := propext Iff.rfl
theorem q_opt_i {i : Int} {C : Option Int → Prop} : fOpt (.int i) C = C (some i) := rfl
theorem q_opt_n {C : Option Int → Prop} : fOpt .none C = C none := rfl
/-- a if c else b, looked at -/
theorem jv_if {a b c : Expr} {t u : UV} (hc : JT τ X c tt) (ha : JV τ X a t) (hb : JV τ X b u) : JV τ X (.IfExp c a b pos) (dIf tt t u) := fun ρ C cc H0 γ σ H r Q q =>
  wpE_of (pe_ifExp pt_w pe_w pe_w) (hc ρ _ cc H0 γ σ H r _ fun z H2 c e => by
    cases z with
    | true => exact iteT (ha ρ C (c.1 rfl) H0 γ σ H2 (r.after e) Q fun d v H3 c e2 h => q d v H3 c (e.trans e2) h)
    | false => exact iteF (hb ρ C (c.2 rfl) H0 γ σ H2 (r.after e) Q fun d v H3 c e2 h => q d v H3 c (e.trans e2) h))
end
end Pu
/-! ### dicts whose keys are None and ints, or tuples of such: rules -/
namespace Pu
open PySem PySem.Spec PyProof.Rows L2 PySem.W
def oiD : OI → D
  | none => .none
  | some i => .int i
def oiOf : D → Option OI
  | .none => some none
  | .int i => some (some i)
  | _ => none
def oisOf : List D → Option (List OI)
  | [] => some []
  | d :: ds => match oiOf d, oisOf ds with
    | some k, some ks => some (k :: ks)
    | _, _ => none
def otOf : D → Option (List OI)
  | .tuple ds => oisOf ds
  | _ => none
theorem oiOf_D {k : OI} : oiOf (oiD k) = some k := by cases k <;> rfl
theorem oisOf_D : ∀ {ks : List OI}, oisOf (ks.map oiD) = some ks
  | [] => rfl
  | k :: ks => by rw [List.map_cons, oisOf, oiOf_D, oisOf_D]
def getA {α : Type} [DecidableEq α] (kds : List (α × D)) (k : α) : Option D := (kds.find? fun p => decide (p.1 = k)).map (·.2)
def thGet : Th → D → Option (Option D)
  | .dl kds, dk => (oiOf dk).map fun k => getA kds k
  | .dt kds, dk => (otOf dk).map fun k => getA kds k
def thPut : Th → D → D → Option Th
  | .dl kds, dk, d => (oiOf dk).map fun k => .dl (putT kds k d)
  | .dt kds, dk, d => (otOf dk).map fun k => .dt (putT kds k d)
def Th.len : Th → Nat
  | .dl kds => kds.length
  | .dt kds => kds.length
def oSl : Option Sl → (Th → Prop) → Prop
  | some (.th x), C => C x
  | some (.tv x), C => C x
  | some (.tl x), C => C x
  | _, _ => False
section
variable {K : PySem.W.Frag} {H R : Hp}
theorem dp_oi {v : V} {d : D} {k : OI} (h : Dp K R v d) (e : oiOf d = some k) : v = oiV k := by
  cases h <;> cases e <;> rfl
theorem dp_ois : ∀ {ds : List D} {ks : List OI} {vs : List V}, oisOf ds = some ks → DpAll K R vs ds → vs = ks.map oiV
  | [], ks, vs, e, h => by
    cases e
    cases h
    rfl
  | d :: ds, ks, vs, e, h => by
    unfold oisOf at e
    split at e
    · rename_i k ks' e1 e2
      cases e
      cases h with
      | cons h1 h2 => rw [dp_ois e2 h2, dp_oi h1 e1]; rfl
    · cases e
theorem dp_ot {v : V} {d : D} {k : List OI} (h : Dp K R v d) (e : otOf d = some k) : ∃ b, v = .ref b ∧ SqT K R b (k.map oiV) := by
  cases h with
  | tup hs ha => exact ⟨_, rfl, by rw [← dp_ois e ha]; exact hs⟩
  | _ => cases e
section
variable {α : Type} [DecidableEq α]
theorem kvOk_get {k : α} : ∀ {kvs : List (α × V)} {kds : List (α × D)}, KvOk K R kvs kds → (∀ d, getA kds k = some d → ∃ v, valV kvs k = some v ∧ Dp K R v d) ∧ (getA kds k = none → valV kvs k = none)
  | _, _, .nil => ⟨fun d h => (by cases h), fun _ => rfl⟩
  | p :: _, q :: _, .cons h t => by
    obtain ⟨g1, g2⟩ := kvOk_get (k := k) t
    unfold getA at g1 g2 ⊢
    unfold valV at g1 g2 ⊢
    rw [List.find?_cons, List.find?_cons, ← h.1]
    by_cases e : p.1 = k
    · rw [decide_eq_true e]
      exact ⟨fun d hd => by cases hd; exact ⟨_, rfl, h.2⟩, fun hd => by cases hd⟩
    · rw [decide_eq_false e]
      exact ⟨g1, g2⟩
end
theorem xtOk_get {k : List OI} : ∀ {xs : List (List OI × Addr × V)} {kds : List (List OI × D)}, XtOk K R xs kds → (∀ d, getA kds k = some d → ∃ v, valX xs k = some v ∧ Dp K R v d) ∧ (getA kds k = none → valX xs k = none)
  | _, _, .nil => ⟨fun d h => (by cases h), fun _ => rfl⟩
  | p :: _, q :: _, .cons h t => by
    obtain ⟨g1, g2⟩ := xtOk_get (k := k) t
    unfold getA at g1 g2 ⊢
    unfold valX at g1 g2 ⊢
    rw [List.find?_cons, List.find?_cons, ← h.1]
    by_cases e : p.1 = k
    · rw [decide_eq_true e]
      exact ⟨fun d hd => by cases hd; exact ⟨_, rfl, h.2.2⟩, fun hd => by cases hd⟩
    · rw [decide_eq_false e]
      exact ⟨g1, g2⟩
theorem XtOk.keys (hR : Same R H) : ∀ {xs : List (List OI × Addr × V)} {kds : List (List OI × D)}, XtOk K R xs kds → KeysAt K H xs
  | _, _, .nil => fun _ h => by cases h
  | p :: _, _, .cons h t => fun x hx => by
    rcases List.mem_cons.mp hx with rfl | hx
    · exact sqT_same hR h.2.1
    · exact XtOk.keys hR t x hx
theorem XtOk.len : ∀ {xs : List (List OI × Addr × V)} {kds : List (List OI × D)}, XtOk K R xs kds → xs.length = kds.length
  | _, _, .nil => rfl
  | _, _, .cons _ t => by simp [XtOk.len t]
theorem XtOk.keysEq : ∀ {xs : List (List OI × Addr × V)} {kds : List (List OI × D)}, XtOk K R xs kds → xs.map (·.1) = kds.map (·.1)
  | _, _, .nil => rfl
  | _, _, .cons h t => by rw [List.map_cons, List.map_cons, h.1, XtOk.keysEq t]
/-- what it holds -/
theorem th_look {a : Addr} {o : HO} {x : Th} {y : V} {dk : D} {od : Option D} (h1 : Rd H a o) (h2 : ThIs K R a o x) (hR : Same R H) (b : Dp K R y dk) (g : thGet x dk = some od) :
    ∃ ov, OGet K H a y ov ∧ ov.isSome = od.isSome ∧ ∀ d, od = some d → ∃ v, ov = some v ∧ Dp K R v d := by
  cases x with
  | dl kds =>
    obtain ⟨kvs, rfl, hk⟩ := h2
    obtain ⟨k, e1, e2⟩ := Option.map_eq_some_iff.mp g
    subst e2
    obtain ⟨g1, g2⟩ := kvOk_get (k := k) hk
    refine ⟨valV kvs k, .inl ⟨kvs, k, h1, dp_oi b e1, rfl⟩, ?_, g1⟩
    cases q : getA kds k with
    | none => rw [g2 q]; rfl
    | some d => obtain ⟨v, e, _⟩ := g1 d q; rw [e]; rfl
  | dt kds =>
    obtain ⟨xs, rfl, hk⟩ := h2
    obtain ⟨k, e1, e2⟩ := Option.map_eq_some_iff.mp g
    subst e2
    obtain ⟨g1, g2⟩ := xtOk_get (k := k) hk
    obtain ⟨p, rfl, hp⟩ := dp_ot b e1
    refine ⟨valX xs k, .inr ⟨xs, k, p, h1, hk.keys hR, rfl, sqT_same hR hp, rfl⟩, ?_, g1⟩
    cases q : getA kds k with
    | none => rw [g2 q]; rfl
    | some d => obtain ⟨v, e, _⟩ := g1 d q; rw [e]; rfl
theorem th_isO {a : Addr} {o : HO} {x : Th} (h1 : Rd H a o) (h2 : ThIs K R a o x) (hR : Same R H) : IsO K H a := by
  cases x with
  | dl kds =>
    obtain ⟨kvs, rfl, hk⟩ := h2
    exact .inl ⟨kvs, h1⟩
  | dt kds =>
    obtain ⟨xs, rfl, hk⟩ := h2
    exact .inr ⟨xs, h1, hk.keys hR⟩
theorem xt_any {k : List OI} : ∀ {xs : List (List OI × Addr × V)} {kds : List (List OI × D)}, XtOk K R xs kds → (xs.any fun x => decide (x.1 = k)) = (kds.any fun p => decide (p.1 = k))
  | _, _, .nil => rfl
  | _, _, .cons h t => by rw [List.any_cons, List.any_cons, xt_any t, h.1]
theorem xt_repl {k : List OI} {v : V} {d : D} (hd : Dp K R v d) : ∀ {xs : List (List OI × Addr × V)} {kds : List (List OI × D)}, XtOk K R xs kds → XtOk K R (xs.map fun x => if x.1 = k then (x.1, x.2.1, v) else x) (kds.map fun kv => if kv.1 = k then (kv.1, d) else kv)
  | _, _, .nil => .nil
  | p :: _, q :: _, .cons h t => by
    refine .cons ?_ (xt_repl hd t)
    dsimp only
    by_cases e : p.1 = k
    · rw [if_pos e, if_pos (h.1 ▸ e)]
      exact ⟨h.1, h.2.1, hd⟩
    · rw [if_neg e, if_neg (fun z => e (h.1.trans z))]
      exact h
theorem xt_put {k : List OI} {b : Addr} {v : V} {d : D} {xs : List (List OI × Addr × V)} {kds : List (List OI × D)} (h : XtOk K R xs kds) (hb : SqT K R b (k.map oiV)) (hd : Dp K R v d) : XtOk K R (putX xs k b v) (putT kds k d) := by
  unfold putX putT
  rw [xt_any h]
  split
  · exact xt_repl hd h
  · exact Paired.snoc h ⟨rfl, hb, hd⟩
/-- behind d[y] = v -/
theorem th_put {a : Addr} {o : HO} {x x' : Th} {y v : V} {dk d : D} (h1 : H a = some o) (h2 : ThIs K R a o x) (hR : Same R H) (b : Dp K R y dk) (bd : Dp K R v d) (hl : x.len < 1000000) (g : thPut x dk d = some x') :
    ∃ o', OPut K H a y v (upd H a o') ∧ ThIs K R a o' x' := by
  cases x with
  | dl kds =>
    obtain ⟨kvs, rfl, hk⟩ := h2
    obtain ⟨k, e1, e2⟩ := Option.map_eq_some_iff.mp g
    subst e2
    refine ⟨_, .inl ⟨kvs, k, h1, dp_oi b e1, Nat.lt_of_lt_of_le (by rw [kt_len hk]; exact hl) (by decide), rfl⟩, _, rfl, kt_put hk bd⟩
  | dt kds =>
    obtain ⟨xs, rfl, hk⟩ := h2
    obtain ⟨k, e1, e2⟩ := Option.map_eq_some_iff.mp g
    subst e2
    obtain ⟨p, rfl, hp⟩ := dp_ot b e1
    refine ⟨_, .inr ⟨xs, k, p, h1, hk.keys hR, rfl, sqT_same hR hp, Nat.lt_of_lt_of_le (by rw [hk.len]; exact hl) (by decide), rfl⟩, _, rfl, xt_put hk hp bd⟩
end
section
variable {τ : Tn} {K : PySem.W.Frag} {H0 H H2 : Hp} {γ : List (V × D)} {σ : St} {ρ : En} {i : Nat} {x : Th}
theorem th_slot (r : Rep K τ H0 γ H σ ρ) {C : Th → Prop} (hs : oSl ρ[i]? C) : ∃ a x, C x ∧ σ[i]? = some (some (.ref a)) ∧ ¬ τ.ad a ∧ ∀ H2, Ext τ H H2 → ∃ o, Rd H2 a o ∧ ThIs K (res H2 (own τ σ ρ)) a o x := by
  cases hi : ρ[i]? with
  | none => rw [hi] at hs; exact hs.elim
  | some s =>
    rw [hi] at hs
    cases s with
    | th x =>
      obtain ⟨a, o, e0, h0, hn, h, h'⟩ := r.sl i _ hi
      exact ⟨a, x, hs, e0, hn, fun H2 e => ⟨o, .inl (e.kp a _ h hn), h'.same (res_ext e fun _ => own_ad)⟩⟩
    | tv x =>
      obtain ⟨a, e0, o, h, h'⟩ := r.sl i _ hi
      have na : ¬ τ.ad a := by
        rcases h with h | ⟨_, h⟩
        · exact fun z => (res_some.mp h).1 (own_ad z)
        · exact fun z => (res_some.mp h).1 (own_ad z)
      exact ⟨a, x, hs, e0, na, fun H2 e => ⟨o, rd_same res_le (rd_same (res_ext e fun _ => own_ad) h), h'.same (res_ext e fun _ => own_ad)⟩⟩
    | tl x =>
      obtain ⟨a, od, o, e0, h, h'⟩ := r.sl i _ hi
      exact ⟨a, x, hs, e0, fun z => (res_some.mp h).1 (own_ad z), fun H2 e => ⟨o, .inr ⟨od, res_at ((res_ext e fun _ => own_ad) _ _ h)⟩, h'.same (res_ext e fun _ => own_ad)⟩⟩
    | _ => exact hs.elim
end
section
variable {τ : Tn} {G : Gx} {cp : List Str} {N : List Str} {sc : Scope} {k : Nat} {X : Cx} {e e2 f value : Expr} {es : List Expr} {tk tv tx : UV} {te : UE} {ta : UA} {t : US} {st : Stmt} {x : Str} {p p1 p2 p3 apos cpos pos : Pos}
/-! d[k], k in d, d.get(k, x) -/
def dOGet (i : Nat) (tk : UV) : UV := fun ρ C => oSl ρ[i]? fun x => tk ρ fun dk => ∃ d, thGet x dk = some (some d) ∧ C d
theorem jd_oget (S : Ok cp G N sc k X) (i : Nat) (hk : JD τ X e tk) (hN : N[i]? = some x := by rfl) (hvis : Vis sc x := by first | exact Or.inl rfl | exact Or.inr (Or.inl rfl) | exact Or.inr (Or.inr rfl)) (hd : (x == ("__debug__" : Str)) = false := by decide) (hcd : (x == ("__classdict__" : Str)) = false := by decide)
    (hs : NoSl e := by exact fun _ _ => rfl) : JD τ X (.Subscript (.Name x p2) e pos) (dOGet i tk) := fun ρ C c H0 γ σ H r Q q => by
  refine wpE_of (pe_oget (by have := S.room.un; omega) (pe_var (i := i) (by rw [S.eN]; exact hN) (by rw [S.es]; exact hvis) hd hcd) pe_w hs) ?_
  obtain ⟨a, y, c, e0, _, g⟩ := th_slot r c
  refine ⟨_, e0, hk ρ _ c H0 γ σ H r _ fun dk v2 H2 c e2 b2 => ?_⟩
  obtain ⟨d, gd, c⟩ := c
  obtain ⟨o, g1, g2⟩ := g H2 e2
  obtain ⟨ov, w1, _, w3⟩ := th_look g1 g2 res_le b2 gd
  obtain ⟨v, rfl, w4⟩ := w3 d rfl
  exact ⟨a, v, rfl, w1, q d v H2 c e2 w4⟩
def bOIn (neg : Bool) (i : Nat) (tk : UV) : UT := fun ρ C => tk ρ fun dk => oSl ρ[i]? fun x => ∃ o, thGet x dk = some o ∧ C (bif neg then !o.isSome else o.isSome)
theorem wp_oin {neg : Bool} {C : Bool → Prop} {ρ : En} {H0 H : Hp} {γ : List (V × D)} {σ : L2.St} {i : Nat} {Q : VK} (hk : JD τ X e tk) (r : Rep X.K τ H0 γ H σ ρ) (c : bOIn neg i tk ρ C) (q : ∀ b H2, C b → Ext τ H H2 → Q (.bl b) H2) :
    wpE X e σ H fun y H1 => ∃ v, σ[i]? = some (some v) ∧ ∃ a o, v = .ref a ∧ OGet X.K H1 a y o ∧ Q (.bl (bif neg then !o.isSome else o.isSome)) H1 := by
  refine hk ρ _ c H0 γ σ H r _ fun dk y H1 c e1 b => ?_
  obtain ⟨a, z, c, e0, _, g⟩ := th_slot r c
  obtain ⟨od, gd, c⟩ := c
  obtain ⟨o, g1, g2⟩ := g H1 e1
  obtain ⟨ov, w1, w2, _⟩ := th_look g1 g2 res_le b gd
  exact ⟨_, e0, a, ov, rfl, w1, q _ _ (by rw [w2]; exact c) e1⟩
theorem jt_oin (S : Ok cp G N sc k X) (i : Nat) (hk : JD τ X e tk) (hN : N[i]? = some x := by rfl) (hvis : Vis sc x := by first | exact Or.inl rfl | exact Or.inr (Or.inl rfl) | exact Or.inr (Or.inr rfl)) (hd : (x == ("__debug__" : Str)) = false := by decide) (hcd : (x == ("__classdict__" : Str)) = false := by decide) :
    JT τ X (.Compare e [.In] [.Name x p2] pos) (bOIn false i tk) := fun ρ C c H0 γ σ H r Q q =>
  wpT_of (pt_cmp (pc_oin (by have := S.room.un; omega) pe_w (pe_var (i := i) (by rw [S.eN]; exact hN) (by rw [S.es]; exact hvis) hd hcd)) (by rfl))
    (wp_oin (neg := false) (Q := fun v H2 => ∃ b, v = .bl b ∧ Q b H2) hk r c fun b H2 cb e2 => ⟨b, rfl, q b H2 cb e2⟩)
theorem jt_nin (S : Ok cp G N sc k X) (i : Nat) (hk : JD τ X e tk) (hN : N[i]? = some x := by rfl) (hvis : Vis sc x := by first | exact Or.inl rfl | exact Or.inr (Or.inl rfl) | exact Or.inr (Or.inr rfl)) (hd : (x == ("__debug__" : Str)) = false := by decide) (hcd : (x == ("__classdict__" : Str)) = false := by decide) :
    JT τ X (.Compare e [.NotIn] [.Name x p2] pos) (bOIn true i tk) := fun ρ C c H0 γ σ H r Q q =>
  wpT_of (pt_cmp (pc_onotin (by have := S.room.un; omega) pe_w (pe_var (i := i) (by rw [S.eN]; exact hN) (by rw [S.es]; exact hvis) hd hcd)) (by rfl))
    (wp_oin (neg := true) (Q := fun v H2 => ∃ b, v = .bl b ∧ Q b H2) hk r c fun b H2 cb e2 => ⟨b, rfl, q b H2 cb e2⟩)
theorem jd_oin (S : Ok cp G N sc k X) (i : Nat) (hk : JD τ X e tk) (hN : N[i]? = some x := by rfl) (hvis : Vis sc x := by first | exact Or.inl rfl | exact Or.inr (Or.inl rfl) | exact Or.inr (Or.inr rfl)) (hd : (x == ("__debug__" : Str)) = false := by decide) (hcd : (x == ("__classdict__" : Str)) = false := by decide) :
    JD τ X (.Compare e [.In] [.Name x p2] pos) (dB (bOIn false i tk)) := fun ρ C c H0 γ σ H r Q q =>
  wpE_of (L2.pe_cmp (pc_oin (by have := S.room.un; omega) pe_w (pe_var (i := i) (by rw [S.eN]; exact hN) (by rw [S.es]; exact hvis) hd hcd)) (by rfl))
    (wp_oin (neg := false) (Q := Q) hk r c fun b H2 cb e2 => q (.bool b) (.bl b) H2 cb e2 (.bl b))
def dOGet2 (i : Nat) (tk tx : UV) : UV := fun ρ C => oSl ρ[i]? fun x => tk ρ fun dk => tx ρ fun dx => ∃ o, thGet x dk = some o ∧ C (o.getD dx)
theorem jd_oget2 (S : Ok cp G N sc k X) (i : Nat) (hk : JD τ X e tk) (hx : JD τ X f tx) (hN : N[i]? = some x := by rfl) (hvis : Vis sc x := by first | exact Or.inl rfl | exact Or.inr (Or.inl rfl) | exact Or.inr (Or.inr rfl)) (hd : (x == ("__debug__" : Str)) = false := by decide) (hcd : (x == ("__classdict__" : Str)) = false := by decide)
    (hm : M2 X (.Name x p2) "get" apos e f cpos := by exact ⟨rfl, rfl, rfl, rfl⟩) : JD τ X (.Call (.Attribute (.Name x p2) "get" apos) [e, f] [] cpos) (dOGet2 i tk tx) := fun ρ C c H0 γ σ H r Q q => by
  refine wpE_of (pe_oget2 (by have := S.room.un; omega) (pe_var (i := i) (by rw [S.eN]; exact hN) (by rw [S.es]; exact hvis) hd hcd) pe_w pe_w hm) ?_
  obtain ⟨a, y, c, e0, _, g⟩ := th_slot r c
  obtain ⟨o0, g1, g2⟩ := g H .refl
  refine ⟨_, e0, a, rfl, th_isO g1 g2 res_le, hk ρ _ c H0 γ σ H r _ fun dk v H1 c e1 b => hx ρ _ c H0 γ σ H1 (r.after e1) _ fun dx z H2 c e2 b2 => ?_⟩
  obtain ⟨od, gd, c⟩ := c
  obtain ⟨o, g1, g2⟩ := g H2 (e1.trans e2)
  obtain ⟨ov, w1, w2, w3⟩ := th_look g1 g2 res_le (dp_after e2 b) gd
  refine ⟨ov, w1, q _ _ H2 c (e1.trans e2) ?_⟩
  cases od with
  | none =>
    cases ov with
    | none => exact b2
    | some v => cases w2
  | some d =>
    obtain ⟨v, rfl, w4⟩ := w3 d rfl
    exact w4
/-! d[k] = v -/
def sOPut (i : Nat) (tk tv : UV) : US := fun E ρ => match ρ[i]? with
  | some (.th y) => tv ρ fun d => tk ρ fun dk => ∃ y', thPut y dk d = some y' ∧ y.len < 1000000 ∧ E.nx (ρ.set i (.th y'))
  | _ => False
theorem js_oput (S : Ok cp G N sc k X) (i : Nat) (hk : JD τ X e tk) (hv : JD τ X value tv) (hN : N[i]? = some x := by rfl) (hvis : Vis sc x := by first | exact Or.inl rfl | exact Or.inr (Or.inl rfl) | exact Or.inr (Or.inr rfl)) (hd : (x == ("__debug__" : Str)) = false := by decide) (hcd : (x == ("__classdict__" : Str)) = false := by decide)
    (hsw : swapsWith value (some (.Subscript (.Name x p1) e p3)) pos.line X.env = pure false := by rfl) :
    JS τ X (.Assign [.Subscript (.Name x p1) e p3] value pos) (sOPut i tk tv) := fun ρ E c H0 γ σ H r Dn d => by
  refine wpS_of (ps_oput (by have := S.room.un; omega) (pe_var (i := i) (by rw [S.eN]; exact hN) (by rw [S.es]; exact hvis) hd hcd) pe_w pe_w hsw) ?_
  unfold sOPut at c
  split at c
  · rename_i y hi
    refine hv ρ _ c H0 γ σ H r _ fun d1 v1 H1 c e1 b1 => ?_
    obtain ⟨a, o, e0, h0, hn, h, h'⟩ := r.sl i _ hi
    refine ⟨_, e0, hk ρ _ c H0 γ σ H1 (r.after e1) _ fun dk v2 H2 c e2 b2 => ?_⟩
    obtain ⟨y', g, hlen, c⟩ := c
    have e3 := e1.trans e2
    have ha := e3.kp a _ h hn
    obtain ⟨o', w1, w2⟩ := th_put ha (h'.same (res_ext e3 fun _ => own_ad)) res_le b2 (dp_after e2 b1) hlen g
    exact ⟨a, _, rfl, w1, d.nx _ _ _ c ((r.after e3).change hi rfl rfl e0 hn h0 ⟨a, o', rfl, h0, hn, upd_same, w2⟩)⟩
  · exact c.elim
/-! x is None, x perhaps such a dict -/
def nSl : Option Sl → (Bool → Prop) → Prop
  | some (.dat .none), C => C true
  | some (.dat _), C => C false
  | some (.lst _), C => C false
  | some (.th _), C => C false
  | some (.tv _), C => C false
  | some (.tl _), C => C false
  | _, _ => False
theorem n_slot {K : PySem.W.Frag} {H0 H : Hp} {γ : List (V × D)} {σ : L2.St} {ρ : En} {i : Nat} {C : Bool → Prop} (r : Rep K τ H0 γ H σ ρ) (c : nSl ρ[i]? C) : ∃ v b, σ[i]? = some (some v) ∧ decide (v = .non) = b ∧ C b := by
  cases hi : ρ[i]? with
  | none => rw [hi] at c; exact c.elim
  | some s =>
    rw [hi] at c
    have q := r.sl i s hi
    cases s with
    | dat d =>
      obtain ⟨v, e, h⟩ := q
      refine ⟨v, _, e, rfl, ?_⟩
      cases h <;> exact c
    | lst ds => obtain ⟨a, _, e, _⟩ := q; exact ⟨_, _, e, rfl, c⟩
    | th x => obtain ⟨a, _, e, _⟩ := q; exact ⟨_, _, e, rfl, c⟩
    | tv x => obtain ⟨a, e, _⟩ := q; exact ⟨_, _, e, rfl, c⟩
    | tl x => obtain ⟨a, _, _, e, _⟩ := q; exact ⟨_, _, e, rfl, c⟩
    | _ => exact c.elim
def bIsN (neg : Bool) (i : Nat) : UT := fun ρ C => nSl ρ[i]? fun b => C (bif neg then !b else b)
def rN : Rs → Bool
  | .dat .none => true
  | _ => false
def bEIsN (neg : Bool) (te : UE) : UT := fun ρ C => te ρ fun r => C (bif neg then !(rN r) else rN r)
theorem jt_isN {j : Nat} (S : Ok cp G N sc k X) (i : Nat) (hN : N[i]? = some x := by rfl) (hvis : Vis sc x := by first | exact Or.inl rfl | exact Or.inr (Or.inl rfl) | exact Or.inr (Or.inr rfl)) (hd : (x == ("__debug__" : Str)) = false := by decide) (hcd : (x == ("__classdict__" : Str)) = false := by decide) :
    JT τ X (.Compare (.Name x p2) [.Is] [.Constant .none j p3] pos) (bIsN false i) := fun ρ C c H0 γ σ H r Q q => by
  refine wpT_of (pt_cmpR op_isU (pe_var (i := i) (by rw [S.eN]; exact hN) (by rw [S.es]; exact hvis) hd hcd) pe_non (by rfl)) ?_
  obtain ⟨v, b, e0, eb, c⟩ := n_slot r c
  exact ⟨v, e0, .inl ⟨rfl, _, rfl, q _ H (by rw [eb]; exact c) .refl⟩⟩
theorem jt_isnN {j : Nat} (S : Ok cp G N sc k X) (i : Nat) (hN : N[i]? = some x := by rfl) (hvis : Vis sc x := by first | exact Or.inl rfl | exact Or.inr (Or.inl rfl) | exact Or.inr (Or.inr rfl)) (hd : (x == ("__debug__" : Str)) = false := by decide) (hcd : (x == ("__classdict__" : Str)) = false := by decide) :
    JT τ X (.Compare (.Name x p2) [.IsNot] [.Constant .none j p3] pos) (bIsN true i) := fun ρ C c H0 γ σ H r Q q => by
  refine wpT_of (pt_cmpR op_isnU (pe_var (i := i) (by rw [S.eN]; exact hN) (by rw [S.es]; exact hvis) hd hcd) pe_non (by rfl)) ?_
  obtain ⟨v, b, e0, eb, c⟩ := n_slot r c
  exact ⟨v, e0, .inl ⟨rfl, _, rfl, q _ H (by rw [eb]; exact c) .refl⟩⟩
theorem jd_isN {j : Nat} (S : Ok cp G N sc k X) (i : Nat) (hN : N[i]? = some x := by rfl) (hvis : Vis sc x := by first | exact Or.inl rfl | exact Or.inr (Or.inl rfl) | exact Or.inr (Or.inr rfl)) (hd : (x == ("__debug__" : Str)) = false := by decide) (hcd : (x == ("__classdict__" : Str)) = false := by decide) :
    JD τ X (.Compare (.Name x p2) [.Is] [.Constant .none j p3] pos) (dB (bIsN false i)) := fun ρ C c H0 γ σ H r Q q => by
  refine wpE_of (pe_cmpR op_isU (pe_var (i := i) (by rw [S.eN]; exact hN) (by rw [S.es]; exact hvis) hd hcd) pe_non (by rfl)) ?_
  obtain ⟨v, b, e0, eb, c⟩ := n_slot r c
  exact ⟨v, e0, .inl ⟨rfl, q _ _ H (by rw [eb]; exact c) .refl (.bl _)⟩⟩
theorem jd_isnN {j : Nat} (S : Ok cp G N sc k X) (i : Nat) (hN : N[i]? = some x := by rfl) (hvis : Vis sc x := by first | exact Or.inl rfl | exact Or.inr (Or.inl rfl) | exact Or.inr (Or.inr rfl)) (hd : (x == ("__debug__" : Str)) = false := by decide) (hcd : (x == ("__classdict__" : Str)) = false := by decide) :
    JD τ X (.Compare (.Name x p2) [.IsNot] [.Constant .none j p3] pos) (dB (bIsN true i)) := fun ρ C c H0 γ σ H r Q q => by
  refine wpE_of (pe_cmpR op_isnU (pe_var (i := i) (by rw [S.eN]; exact hN) (by rw [S.es]; exact hvis) hd hcd) pe_non (by rfl)) ?_
  obtain ⟨v, b, e0, eb, c⟩ := n_slot r c
  exact ⟨v, e0, .inl ⟨rfl, q _ _ H (by rw [eb]; exact c) .refl (.bl _)⟩⟩
theorem rs_non {H1 H2 : Hp} {σ : L2.St} {ρ : En} {v : V} {r : Rs} (h : RsOk X.K τ H1 H2 σ ρ v r) : decide (v = .non) = rN r := by
  cases r with
  | dat d => cases h <;> rfl
  | lst ds => obtain ⟨a, _, rfl, _⟩ := h; rfl
  | dic ds => obtain ⟨a, _, rfl, _⟩ := h; rfl
  | th ds => obtain ⟨a, _, rfl, _⟩ := h; rfl
  | dll ds => obtain ⟨a, _, rfl, _⟩ := h; rfl
theorem jt_eisN {j : Nat} (h : JE τ X e te) : JT τ X (.Compare e [.Is] [.Constant .none j p3] pos) (bEIsN false te) := fun ρ C c H0 γ σ H r Q q =>
  wpT_of (pt_cmpR op_isU pe_w pe_non (by rfl)) (h ρ _ c H0 γ σ H r _ fun rs v H2 c e1 h1 => .inl ⟨rfl, _, rfl, q _ H2 (by rw [rs_non h1]; exact c) e1⟩)
theorem jt_eisnN {j : Nat} (h : JE τ X e te) : JT τ X (.Compare e [.IsNot] [.Constant .none j p3] pos) (bEIsN true te) := fun ρ C c H0 γ σ H r Q q =>
  wpT_of (pt_cmpR op_isnU pe_w pe_non (by rfl)) (h ρ _ c H0 γ σ H r _ fun rs v H2 c e1 h1 => .inl ⟨rfl, _, rfl, q _ H2 (by rw [rs_non h1]; exact c) e1⟩)
theorem jd_eisN {j : Nat} (h : JE τ X e te) : JD τ X (.Compare e [.Is] [.Constant .none j p3] pos) (dB (bEIsN false te)) := fun ρ C c H0 γ σ H r Q q =>
  wpE_of (pe_cmpR op_isU pe_w pe_non (by rfl)) (h ρ _ c H0 γ σ H r _ fun rs v H2 c e1 h1 => .inl ⟨rfl, q _ _ H2 (by rw [rs_non h1]; exact c) e1 (.bl _)⟩)
theorem jd_eisnN {j : Nat} (h : JE τ X e te) : JD τ X (.Compare e [.IsNot] [.Constant .none j p3] pos) (dB (bEIsN true te)) := fun ρ C c H0 γ σ H r Q q =>
  wpE_of (pe_cmpR op_isnU pe_w pe_non (by rfl)) (h ρ _ c H0 γ σ H r _ fun rs v H2 c e1 h1 => .inl ⟨rfl, q _ _ H2 (by rw [rs_non h1]; exact c) e1 (.bl _)⟩)
/-! dict(d) -/
def rOD (K : PySem.W.Frag) : List V → Hp → VK → Prop := fun vs H Q => ∃ (a : Addr) (xs : List (List OI × Addr × V)), vs = [.ref a] ∧ Rd H a (DTo a xs) ∧ KeysAt K H xs ∧ (xs.map fun x => otHash x.1).Nodup ∧ ∀ p, H p = none → Q (.ref p) (upd H p (DTo p xs))
theorem cr_od (hu : X.A.units + 65 < cLine) : CallR X (.type "dict") (rOD X.K) := by
  intro pins s σ H vs us Q I r h
  obtain ⟨a, xs, rfl, h1, h2, h3, q⟩ := h
  obtain rfl := Vals.ref1 r
  exact o_copyOf (by omega) I h1 h2 h3 fun p s' hp I' => ⟨.ref p, _, I', rfl, q p hp⟩
def eODict (i : Nat) : UE := fun ρ C => oSl ρ[i]? fun x => match x with
  | .dt kds => (kds.map fun p => otHash p.1).Nodup ∧ C (.th (.dt kds))
  | _ => False
theorem je_odict (S : Ok cp G N sc k X) (i : Nat) (hm : Free G "dict") (hN : N[i]? = some x := by rfl) (hvis : Vis sc x := by first | exact Or.inl rfl | exact Or.inr (Or.inl rfl) | exact Or.inr (Or.inr rfl)) (hd : (x == ("__debug__" : Str)) = false := by decide) (hcd : (x == ("__classdict__" : Str)) = false := by decide)
    (hg : sc.names.lookup ("dict" : Str) = some .globalImplicit := by rfl) : JE τ X (.Call (.Name "dict" p2) [.Name x p3] [] pos) (eODict i) := fun ρ C c H0 γ σ H r Q q => by
  refine wpE_of (pe_callTy (cr_od (units65 S.room)) (by show X.env.scope.names.lookup ("dict" : Str) = _; rw [S.es]; exact hg) (by rw [S.em]; exact hm) (by decide +kernel : bootBuiltins "dict" = some (.type "dict")) (pa_cons (pe_var (i := i) (by rw [S.eN]; exact hN) (by rw [S.es]; exact hvis) hd hcd) pa_nil (by rfl)) (by decide) (by decide) (by rfl) (by rfl)) ?_
  obtain ⟨a, y, c, e0, na, g⟩ := th_slot r c
  obtain ⟨o, g1, g2⟩ := g H .refl
  cases y with
  | dl _ => exact c.elim
  | dt kds =>
    obtain ⟨xs, rfl, hk⟩ := g2
    refine ⟨_, e0, a, xs, rfl, g1, hk.keys res_le, ?_, fun p hp => q _ _ _ c.2 (.new hp) ⟨p, _, rfl, hp, upd_same, xs, rfl, hk.same (res_mono fun b o n e => ?_)⟩⟩
    · have e := congrArg (List.map otHash) hk.keysEq
      rw [List.map_map, List.map_map] at e
      have e : (xs.map fun x => otHash x.1) = kds.map fun p => otHash p.1 := e
      rw [e]
      exact c.1
    · have ne : b ≠ p := ne_of_none e hp
      exact ⟨fun z => z.elim n ne, by rw [upd_ne ne]; exact e⟩
/-! handed over -/
def aTh (i : Nat) (ts : UA) : UA := fun ρ C => oSl ρ[i]? fun x => ts ρ fun as => C (.th x :: as)
theorem ja_th (S : Ok cp G N sc k X) (i : Nat) (hs : JA τ X es ta) (hN : N[i]? = some x := by rfl) (hv : Vis sc x := by first | exact Or.inl rfl | exact Or.inr (Or.inl rfl) | exact Or.inr (Or.inr rfl)) (hd : (x == ("__debug__" : Str)) = false := by decide) (hcd : (x == ("__classdict__" : Str)) = false := by decide)
    (hst : starEach (.Name x pos :: es) X.env = (false, eval (.Name x pos) X.env) :: starEach es X.env := by rfl) : JA τ X (.Name x pos :: es) (aTh i ta) := fun ρ C c H0 γ σ H r Q q => by
  refine wpA_of (pa_cons (pe_var (i := i) (by rw [S.eN]; exact hN) (by rw [S.es]; exact hv) hd hcd) pa_w hst) ?_
  obtain ⟨a, y, c, e0, na, g⟩ := th_slot r c
  refine ⟨_, e0, hs ρ _ c H0 γ σ H r _ fun as vs H3 c e2 b2 hl => q (.th y :: as) (.ref a :: vs) H3 c e2 (.cons ?_ b2) (by simp [hl])⟩
  obtain ⟨o, g1, g2⟩ := g H3 e2
  have ok := g2.ok
  obtain ⟨φ, rfl⟩ := id g2.ext
  refine ⟨a, rfl, _, ?_, g2.same res_own_ad⟩
  rcases g1 with g1 | ⟨od, g1⟩
  · exact .inl (res_put na g1 ok)
  · exact .inr ⟨od, res_put na g1⟩
def aThE (te : UE) (ts : UA) : UA := fun ρ C => te ρ fun r => match r with
  | .th x => ts ρ fun as => C (.th x :: as)
  | _ => False
theorem ja_thE (h : JE τ X e te) (hs : JA τ X es ta) (hst : starEach (e :: es) X.env = (false, eval e X.env) :: starEach es X.env := by rfl) : JA τ X (e :: es) (aThE te ta) := fun ρ C c H0 γ σ H r Q q =>
  wpA_of (pa_cons pe_w pa_w hst) (h ρ _ c H0 γ σ H r _ fun rs v H2 c e1 h1 => by
    cases rs with
    | th y =>
      obtain ⟨a, o, rfl, hn, he, hi⟩ := h1
      have na : ¬ τ.ad a := fun z => r.notOwn hn (own_ad z)
      refine hs ρ _ c H0 γ σ H2 (r.after e1) _ fun as vs H3 c e2 b2 hl => q (.th y :: as) (.ref a :: vs) H3 c (e1.trans e2) (.cons ?_ b2) (by simp [hl])
      exact ⟨a, rfl, _, .inl (res_put na (e2.kp a _ he na) hi.ok), hi.same (res_mono fun b o n e => ⟨fun z => n (.inl (own_ad z)), e2.kp b o e fun z => n (.inl (own_ad z))⟩)⟩
    | _ => exact c.elim)
/-! {} of such -/
theorem pe_dnewO (b : Bool) : PE X (.Dict [] [] pos) (fun _ H Q => ∀ p, H p = none → Q (.ref p) (upd H p (if b then DLo p [] else DTo p []))) := ⟨fun pins s σ H Q I h =>
  wpAny_Dict_empty ⟨.ref s.heap.objs.size, _, I.laid (a := s.heap.objs.size) (t' := s.toks) (fun _ _ q => Heap.get?_push_of_some _ q) (Nat.le_refl _) (by
    have := ok_of_dk0 (P := X.prog) (w := X.w) (H := upd H s.heap.objs.size (if b then DLo s.heap.objs.size [] else DTo s.heap.objs.size [])) (dk_empty s.heap I.big)
    cases b
    · exact this.2
    · exact this.1), rfl, h _ (I.hok.fresh (Nat.le_refl _))⟩⟩
def eTh0 (b : Bool) : UE := fun _ C => C (.th (if b then .dl [] else .dt []))
theorem je_th0 (b : Bool) : JE τ X (.Dict [] [] pos) (eTh0 b) := fun ρ C c H0 γ σ H r Q q =>
  wpE_of (pe_dnewO b) fun p hp => q _ (.ref p) _ c (.new hp) ⟨p, _, rfl, hp, upd_same, by
    cases b
    · exact ⟨[], rfl, .nil⟩
    · exact ⟨[], rfl, .nil⟩⟩
/-! list(range(n)) -/
def eLRg (tv : UV) : UE := fun ρ C => tv ρ fun d => ∃ n : Nat, d = .int n ∧ n ≤ 1000000 ∧ C (.lst ((List.range n).map fun i => .int (i : Nat)))
theorem je_lrg (S : Ok cp G N sc k X) (hm : Free G "list") (hm2 : Free G "range") (he : JV τ X e tv) (hg : sc.names.lookup ("list" : Str) = some .globalImplicit := by rfl) (hg2 : sc.names.lookup ("range" : Str) = some .globalImplicit := by rfl)
    (na : starEach [e] X.env = (false, eval e X.env) :: starEach [] X.env := by rfl) (na2 : starEach [.Call (.Name "range" p2) [e] [] cpos] X.env = (false, eval (.Call (.Name "range" p2) [e] [] cpos) X.env) :: starEach [] X.env := by rfl) :
    JE τ X (.Call (.Name "list" p) [.Call (.Name "range" p2) [e] [] cpos] [] pos) (eLRg tv) := fun ρ C c H0 γ σ H r Q q =>
  wpE_of (pe_listRg S.calm (by show X.env.scope.names.lookup _ = _; rw [S.es]; exact hg) (by rw [S.em]; exact hm) (prg_1 (by show X.env.scope.names.lookup _ = _; rw [S.es]; exact hg2) (by rw [S.em]; exact hm2) pe_w na) na2) (he ρ _ c H0 γ σ H r _ fun d v H2 c e1 b => by
    obtain ⟨n, rfl, hn, c⟩ := c
    cases b
    refine ⟨n, rfl, .of_le (Int.le_refl _) (by omega) (by omega) (by omega), fun p hp => q _ _ _ c (e1.trans (.new hp)) ⟨p, _, rfl, e1.fresh r.inv hp, upd_same, ?_⟩⟩
    have key : ∀ (R : Hp) (l : List Nat), DpAll X.K R (l.map fun i => V.int (0 + (i : Nat))) (l.map fun i => PyData.int (i : Nat)) := fun R l => by
      induction l with
      | nil => exact .nil
      | cons a l ih =>
        refine .cons ?_ ih
        show Dp _ _ (V.int (0 + (a : Int))) _
        rw [Int.zero_add]
        exact .int _
    unfold rgV
    have e0 : ((n : Int) - 0).toNat = n := by omega
    rw [e0]
    exact key _ _)
/-! walked from here on -/
theorem Rep.lock1 {K : PySem.W.Frag} {H0 H : Hp} {γ : List (V × D)} {σ : L2.St} {ρ : En} {i : Nat} {a : Addr} {od : Obj} {o : HO} {s s' : Sl} (r : Rep K τ H0 γ H σ ρ) (hi : ρ[i]? = some s) (hs : s.isOwn = true) (hs' : s'.isOwn = false) (hv : σ[i]? = some (some (.ref a))) (hn : ¬ τ.ad a) (h0 : H0 a = none) (ha : H a = some o) (hl : Lk o) (hm : Mv o)
    (h : ∀ R, Same (res H (own τ σ ρ)) R → R a = some (.frz od o) → SlOk K τ H0 (upd H a (.frz od o)) R (some (some (.ref a))) s') (hk : okT (.frz od o) := by trivial) : Rep K τ H0 γ (upd H a (.frz od o)) σ (ρ.set i s') := by
  have hil : i < ρ.length := (List.getElem?_eq_some_iff.mp hi).1
  have oa : own τ σ ρ a := .inr ⟨i, s, hi, hs, hv⟩
  have sub : ∀ b, own τ σ (ρ.set i s') b → own τ σ ρ b ∧ b ≠ a := fun b z => by
    rcases z with z | ⟨j, u, h1, h2, h3⟩
    · exact ⟨.inl z, fun e => hn (e ▸ z)⟩
    · have ne : i ≠ j := fun e => by subst e; rw [(set_here h1).1, hs'] at h2; cases h2
      exact ⟨.inr ⟨j, u, set_other ne h1, h2, h3⟩, fun e => ne (r.sep i j s u a hi (set_other ne h1) hs h2 hv (by rw [h3, e]))⟩
  have le : Same (res H (own τ σ ρ)) (res (upd H a (.frz od o)) (own τ σ (ρ.set i s'))) := res_mono fun b u n e => by
    have ne : b ≠ a := fun z => n (z ▸ oa)
    exact ⟨fun z => n (sub b z).1, by rw [upd_ne ne]; exact e⟩
  refine ⟨by simp [r.len], fun b u e n => ?_, ?_, fun j u hu => ?_, fun j l u w b h1 h2 h3 h4 h5 h6 => ?_, fun q hq => dp_same le _ _ (r.gh q hq), r.zz⟩
  · rw [upd_ne (ne_of_none e h0)]
    exact r.ext b u e n
  · refine τ.dep (fun b u eb hb => ?_) r.inv
    rw [upd_ne fun z => ?_]
    · exact eb
    · rw [z, ha] at eb
      cases eb
      rcases hb with hb | hb
      · exact hn (by rw [← z]; exact hb)
      · exact hb hl
  · by_cases e : i = j
    · subst e
      obtain ⟨rfl, _⟩ := set_here hu
      rw [hv]
      exact h _ le (res_put (fun z => (sub a z).2 rfl) upd_same hk)
    · refine SlOk.mono le (fun hou b u2 eb nb q => ?_) (r.sl j u (set_other e hu))
      have ne : b ≠ a := fun z => by
        rcases eb with eb | ⟨ws, eo⟩
        · exact e (r.sep i j s u a hi (set_other e hu) hs hou hv (by rw [eb, z]))
        · rw [z, eo] at q
          rw [z] at q
          exact r.notL hi hs hv q
      rw [upd_ne ne]; exact q
  · have n1 : i ≠ j := fun e => by subst e; rw [(set_here h1).1, hs'] at h3; cases h3
    have n2 : i ≠ l := fun e => by subst e; rw [(set_here h2).1, hs'] at h4; cases h4
    exact r.sep j l u w b (set_other n1 h1) (set_other n2 h2) h3 h4 h5 h6
theorem wpS_lock1 {σ : L2.St} {H : Hp} {Dn : Ends} {a : Addr} {o : HO} (ha : H a = some o) (mu : Mut (some o)) (q : ∀ od, wpS X st Dn σ (upd H a (.frz od o))) : wpS X st Dn σ H := by
  unfold wpS at q ⊢
  intro pins s I
  obtain ⟨od, I1⟩ := I.lock ha mu
  exact q od pins s I1
def sLock (i : Nat) (t : US) : US := fun E ρ => match ρ[i]? with
  | some (.th y) => t E (ρ.set i (.tl y))
  | some (.dic kds) => t E (ρ.set i (.ldc kds))
  | _ => t E ρ
theorem js_lock (i : Nat) (h : JS τ X st t) : JS τ X st (sLock i t) := fun ρ E c H0 γ σ H r Dn d => by
  unfold sLock at c
  split at c
  · rename_i y hi
    obtain ⟨a, o, e0, h0, hn, h1, h2⟩ := r.sl i _ hi
    have hl := h2.lk
    obtain ⟨φ, rfl⟩ := id h2.ext
    refine wpS_lock1 h1 trivial fun od => h _ E c H0 γ σ _ (r.lock1 hi rfl rfl e0 hn h0 h1 hl trivial fun R le ra => ⟨a, od, _, rfl, ra, h2.same le⟩) Dn d
  · rename_i kds hi
    obtain ⟨a, kvs, e0, h0, hn, h1, h2⟩ := r.sl i _ hi
    exact wpS_lock1 h1 trivial fun od => h _ E c H0 γ σ _ (r.lock1 hi rfl rfl e0 hn h0 h1 trivial trivial fun R le ra => ⟨a, od, kvs, rfl, ra, KvOk.same le h2⟩) Dn d
  · exact h ρ E c H0 γ σ H r Dn d
/-! lemmas for the math -/
variable {ρ : En} {C : D → Prop} {R : Rs → Prop} {B : Bool → Prop} {A : List Ar → Prop} {E : Ed} {i : Nat} {neg : Bool} {y : Th} {T : Th → Prop}
theorem c_dOGet : dOGet i tk ρ C = oSl ρ[i]? fun x => tk ρ fun dk => ∃ d, thGet x dk = some (some d) ∧ C d := propext Iff.rfl
theorem c_bOIn : bOIn neg i tk ρ B = tk ρ fun dk => oSl ρ[i]? fun x => ∃ o, thGet x dk = some o ∧ B (bif neg then !o.isSome else o.isSome) := propext Iff.rfl
theorem c_dOGet2 : dOGet2 i tk tx ρ C = oSl ρ[i]? fun x => tk ρ fun dk => tx ρ fun dx => ∃ o, thGet x dk = some o ∧ C (o.getD dx) := propext Iff.rfl
def hSl : Option Sl → (Th → Prop) → Prop
  | some (.th x), C => C x
  | _, _ => False
theorem c_sOPut : sOPut i tk tv E ρ = hSl ρ[i]? fun y => tv ρ fun d => tk ρ fun dk => ∃ y', thPut y dk d = some y' ∧ y.len < 1000000 ∧ E.nx (ρ.set i (.th y')) := by
  unfold sOPut
  cases ρ[i]? with
  | none => rfl
  | some s => cases s <;> rfl
theorem c_bIsN : bIsN neg i ρ B = nSl ρ[i]? fun b => B (bif neg then !b else b) := propext Iff.rfl
theorem c_bEIsN : bEIsN neg te ρ B = te ρ fun r => B (bif neg then !(rN r) else rN r) := propext Iff.rfl
def odT (R : Rs → Prop) : Th → Prop
  | .dt kds => (kds.map fun p => otHash p.1).Nodup ∧ R (.th (.dt kds))
  | _ => False
theorem c_eODict : eODict i ρ R = oSl ρ[i]? (odT R) := by
  unfold eODict
  congr 1
theorem odT_t {kds : List (List OI × D)} : odT R (.dt kds) = ((kds.map fun p => otHash p.1).Nodup ∧ R (.th (.dt kds))) := rfl
theorem c_aTh : aTh i ta ρ A = oSl ρ[i]? fun x => ta ρ fun as => A (.th x :: as) := propext Iff.rfl
def thR (T : Th → Prop) : Rs → Prop
  | .th x => T x
  | _ => False
theorem c_aThE : aThE te ta ρ A = te ρ (thR fun x => ta ρ fun as => A (.th x :: as)) := by
  unfold aThE
  congr 1
theorem thR_h : thR T (.th y) = T y := rfl
theorem c_eTh0 {b : Bool} : eTh0 b ρ R = R (.th (if b then .dl [] else .dt [])) := propext Iff.rfl
theorem c_eLRg : eLRg tv ρ R = tv ρ fun d => ∃ n : Nat, d = .int n ∧ n ≤ 1000000 ∧ R (.lst ((List.range n).map fun i => .int (i : Nat))) := propext Iff.rfl
def lkSl (t : Sl → Prop) (u : Prop) : Option Sl → Prop
  | some (.th y) => t (.tl y)
  | some (.dic kds) => t (.ldc kds)
  | _ => u
theorem c_sLock : sLock i t E ρ = lkSl (fun s => t E (ρ.set i s)) (t E ρ) ρ[i]? := by
  unfold sLock
  cases ρ[i]? with
  | none => rfl
  | some s => cases s <;> rfl
theorem lkSl_h {u : Prop} {t : Sl → Prop} : lkSl t u (some (.th y)) = t (.tl y) := rfl
theorem lkSl_d {u : Prop} {t : Sl → Prop} {kds : List (Key × D)} : lkSl t u (some (.dic kds)) = t (.ldc kds) := rfl
theorem lkSl_n {u : Prop} {t : Sl → Prop} {d : D} : lkSl t u (some (.dat d)) = u := rfl
theorem oSl_h : oSl (some (.th y)) T = T y := rfl
theorem oSl_v : oSl (some (.tv y)) T = T y := rfl
theorem oSl_l : oSl (some (.tl y)) T = T y := rfl
theorem hSl_h : hSl (some (.th y)) T = T y := rfl
def isN : D → Bool
  | .none => true
  | _ => false
theorem isN_n : isN .none = true := rfl
theorem isN_i {i : Int} : isN (.int i) = false := rfl
theorem isN_t {ds : List D} : isN (.tuple ds) = false := rfl
theorem nSl_d {d : D} : nSl (some (.dat d)) B = B (isN d) := by cases d <;> rfl
theorem nSl_s {ds : List D} : nSl (some (.lst ds)) B = B false := rfl
theorem nSl_h : nSl (some (.th y)) B = B false := rfl
theorem nSl_v : nSl (some (.tv y)) B = B false := rfl
theorem nSl_l : nSl (some (.tl y)) B = B false := rfl
theorem rN_d {d : D} : rN (.dat d) = isN d := by cases d <;> rfl
theorem rN_h : rN (.th y) = false := rfl
theorem rSl_h : rSl (some (.th y)) R = R (.th y) := rfl
theorem sl_th : Rs.sl (.th y) = .th y := rfl
theorem lf_th : Rs.lf (.th y) = y.lf := rfl
end
end Pu
/-! ### x = [.. for ..], x a cell -/
namespace Pu
open PySem PySem.Spec PyProof.Rows L2 PySem.W
theorem sw_cell {elt : Expr} {gs : List Comprehension} {scope : Scope} {pos py : Pos} {y : Str} {l : Nat} {env : Env} (hy : env.scope.names.lookup y = some .cell) : swapsWith (.ListComp elt gs scope pos) (some (.Name y py)) l env = pure false := by
  have ky : env.kindOf y = some .cell := hy
  unfold swapsWith
  simp only [ky]
  have : ((some NameKind.cell == some NameKind.local) = false) := by decide
  rw [this, Bool.and_false, Bool.false_and, Bool.false_and]
section
variable {τ : Tn} {G : Gx} {cp : List Str} {N : List Str} {sc scope : Scope} {k : Nat} {X : Cx} {x : Str} {elt : Expr} {gs : List Comprehension} {te : UE} {p2 pos cpos : Pos}
theorem js_setCe (S : Ok cp G N sc k X) (i : Nat) (he : JE τ X (.ListComp elt gs scope cpos) te) (hN : N[i]? = some x := by rfl) (hx : sc.names.lookup x = some .cell := by rfl) (hc : cp.contains x = false := by rfl) : JS τ X (.Assign [.Name x p2] (.ListComp elt gs scope cpos) pos) (sSet i te) :=
  js_set S i he hN (Or.inr ⟨hx, hc⟩) (sw_cell (by rw [S.es]; exact hx))
end
end Pu
/-! ### refusals: a def that may raise -/
namespace Pu
open PySem PySem.Spec PyProof.Rows L2
/-- the own class of the name x stands at C -/
structure ExC (G : Gx) (x : Str) (C : Addr) : Prop where
  gl : G.mg x = some (.ref C)
  ex : PySem.W.excIn G.K C He.veBase "ValueError.__new__" = true
  kp : PySem.W.keepIn G.K (.ref C) = true
  sb : PySem.W.subIn G.K (.ref C) (.type "BaseException") = some true
  ty : PySem.W.typeIn G.K (.ref C) = some (.type "type")
def IsC (G : Gx) (x : Str) (u : Value) : Prop := ∃ C, u = .ref C ∧ ExC G x C
abbrev Xw := Str → Prop
abbrev SfX := List Ar → (Rs → Prop) → Xw → Prop
def Tn.at_ (τ : Tn) (z : Hp → Prop) : Tn := ⟨τ.ad, τ.inv, τ.val, τ.tr, τ.dep, z⟩
section
variable {G : Gx} {τ : Tn} {z : Hp → Prop}
theorem Ext.to_at {H H' : Hp} (e : Ext τ H H') : Ext (τ.at_ z) H H' := ⟨e.kp, e.inv⟩
theorem Ext.of_at {H H' : Hp} (e : Ext (τ.at_ z) H H') : Ext τ H H' := ⟨e.kp, e.inv⟩
theorem arOk_at {K : PySem.W.Frag} {H : Hp} {v : V} {a : Ar} : ArOk K (τ.at_ z) H v a ↔ ArOk K τ H v a := by cases a <;> exact Iff.rfl
theorem arsOk_at {K : PySem.W.Frag} {H : Hp} : ∀ {vs : List V} {as : List Ar}, ArsOk K (τ.at_ z) H vs as → ArsOk K τ H vs as
  | _, _, .nil => .nil
  | _, _, .cons h t => .cons (arOk_at.mp h) (arsOk_at t)
theorem arsOk_to {K : PySem.W.Frag} {H : Hp} : ∀ {vs : List V} {as : List Ar}, ArsOk K τ H vs as → ArsOk K (τ.at_ z) H vs as
  | _, _, .nil => .nil
  | _, _, .cons h t => .cons (arOk_at.mpr h) (arsOk_to t)
theorem rtV_at {K : PySem.W.Frag} {H0 H : Hp} {v : V} {r : Rs} : RtV K (τ.at_ z) H0 H v r ↔ RtV K τ H0 H v r := by cases r <;> exact Iff.rfl
theorem FnD.at_ {k : Nat} {x : Str} {ps : List Str} {S : Sf} (F : FnD G τ k x ps S) : FnD G (τ.at_ z) k x ps S := by
  obtain ⟨f, fd, h1, h2, h3, h4⟩ := F.ex
  exact ⟨⟨f, fd, h1.imp fun vs H Q E ⟨as, C, a, b, c, d⟩ => ⟨as, C, arsOk_at a, b, c, fun r v H' l c e h => d r v H' l c e.to_at (rtV_at.mpr h)⟩, h2, h3, h4⟩⟩
theorem FnK.at_ {k n : Nat} {x : Str} {ps ks : List Str} {S : Sf} {g : List Ar → List Ar → List Ar} (F : FnK G τ k x ps S n ks g) : FnK G (τ.at_ z) k x ps S n ks g := by
  obtain ⟨f, fd, gU, gV, h1, h2, h3, h4, h5⟩ := F.ex
  exact ⟨⟨f, fd, gU, gV, h1.imp fun vs H Q E ⟨as, C, a, b, c, d⟩ => ⟨as, C, arsOk_at a, b, c, fun r v H' l c e h => d r v H' l c e.to_at (rtV_at.mpr h)⟩, h2, h3, h4, fun K H vs zs as bs a b => arsOk_to (h5 K H vs zs as bs (arsOk_at a) (arsOk_at b))⟩⟩
/-- what a def promises: its answer, or its refusal -/
def spX (G : Gx) (τ : Tn) (S : SfX) : Sp := fun vs H Q E => ∃ as C ξ, ArsOk G.K τ H vs as ∧ τ.inv H ∧ S as C ξ ∧ (∀ r v H', r.lf = true → C r → Ext τ H H' → RtV G.K τ H H' v r → Q v H') ∧ ∀ x u H', ξ x → IsC G x u → Ext τ H H' → E u none H'
structure FnX (G : Gx) (τ : Tn) (k : Nat) (x : Str) (ps : List Str) (S : SfX) : Prop where
  ex : ∃ (f : Addr) (fd : FuncData), FnOk G.P G.w G.K G.mg G.base (L2.CX G.P G.w) k f fd ps (spX G τ S) ∧ G.mg x = some (.ref f) ∧ PySem.W.keepIn G.K (.ref f) = true ∧ Binds G.K fd ps []
structure FnXK (G : Gx) (τ : Tn) (k : Nat) (x : Str) (ps : List Str) (S : SfX) (n : Nat) (ks : List Str) (g : List Ar → List Ar → List Ar) : Prop where
  ex : ∃ (f : Addr) (fd : FuncData) (gU : List Value → List Value → List Value) (gV : List V → List V → List V), FnOk G.P G.w G.K G.mg G.base (L2.CX G.P G.w) k f fd ps (spX G τ S) ∧ G.mg x = some (.ref f) ∧ PySem.W.keepIn G.K (.ref f) = true ∧ KBn G.K fd ps n ks gU gV ∧
    ∀ (K : PySem.W.Frag) (H : Hp) (vs zs : List V) (as bs : List Ar), ArsOk K τ H vs as → ArsOk K τ H zs bs → ArsOk K τ H (gV vs zs) (g as bs)
theorem spX_at {S : SfX} {vs : List V} {H : Hp} {Q : VK} {E : XK} (h : spX G (τ.at_ z) S vs H Q E) : spX G τ S vs H Q E := by
  obtain ⟨as, C, ξ, a, b, c, d, e⟩ := h
  exact ⟨as, C, ξ, arsOk_at a, b, c, fun r v H' l c e h => d r v H' l c e.to_at (rtV_at.mpr h), fun x u H' h1 h2 h3 => e x u H' h1 h2 h3.to_at⟩
theorem FnX.at_ {k : Nat} {x : Str} {ps : List Str} {S : SfX} (F : FnX G τ k x ps S) : FnX G (τ.at_ z) k x ps S := by
  obtain ⟨f, fd, h1, h2, h3, h4⟩ := F.ex
  exact ⟨⟨f, fd, h1.imp fun vs H Q E h => spX_at h, h2, h3, h4⟩⟩
theorem FnXK.at_ {k n : Nat} {x : Str} {ps ks : List Str} {S : SfX} {g : List Ar → List Ar → List Ar} (F : FnXK G τ k x ps S n ks g) : FnXK G (τ.at_ z) k x ps S n ks g := by
  obtain ⟨f, fd, gU, gV, h1, h2, h3, h4, h5⟩ := F.ex
  exact ⟨⟨f, fd, gU, gV, h1.imp fun vs H Q E h => spX_at h, h2, h3, h4, fun K H vs zs as bs a b => arsOk_to (h5 K H vs zs as bs (arsOk_at a) (arsOk_at b))⟩⟩
/-- refusals that ξ wishes may leave X -/
def XOk (G : Gx) (τ : Tn) (ξ : Xw) (X : Cx) : Prop := ∃ W : WX, Takes X W ∧ ∀ (x : Str) (u : Value) (σ : St) (H0 H : Hp), τ.z H0 → ξ x → IsC G x u → (∀ a o, H0 a = some o → ¬ τ.ad a → H a = some o) → τ.inv H → W u none σ H
def sfxOf (N : List Str) (np : Nat) (t : Xw → US) : SfX := fun as C ξ => as.length = np ∧ t ξ { nx := fun _ => C (.dat .none), rt := fun r => r.lf = true ∧ C r } (en0 N as)
theorem fnOkX_of {x qual : Str} {params : Arguments} {body : List Stmt} {scope : Scope} {dvs : List V} {kws : List (Str × V)} {f : Addr} {fd : FuncData} {N ps : List Str} {k : Nat} {t : Xw → US} (F : FunD G.K x qual params body scope dvs kws f fd) (S : FnScope N ps scope)
    (h : ∀ z X ξ, Ok [] G N scope k X → XOk G (τ.at_ z) ξ X → JSs (τ.at_ z) X body (t ξ)) : FnOk G.P G.w G.K G.mg G.base (L2.CX G.P G.w) (k + 1) f fd ps (spX G τ (sfxOf N ps.length t)) := by
  refine F.ok S (fun vs H Q E h => ?_) (fun cdv A outer s H vs Q E hr h' => ⟨wpSs (cxOf (L2.CX G.P G.w) G.P G.w G.K G.mg G.base N qual scope f cdv A outer s H E) body, pss_w, ?_⟩)
  · obtain ⟨as, C, ξ, h1, _, h2, _⟩ := h
    exact (Paired.length h1).trans h2.1
  · obtain ⟨as, C, ξ, h1, hi, h2, hq, hx⟩ := h'
    have O : Ok [] G N scope k (cxOf (L2.CX G.P G.w) G.P G.w G.K G.mg G.base N qual scope f cdv A outer s H E) := ⟨rfl, rfl, rfl, rfl, rfl, rfl, S.nd, rfl, S.kind, rfl, hr, fun _ _ _ => rfl, PassesOwn.leaving⟩
    have xo : XOk G (τ.at_ fun H0 => H0 = H) ξ (cxOf (L2.CX G.P G.w) G.P G.w G.K G.mg G.base N qual scope f cdv A outer s H E) :=
      ⟨fun cls d _ H => E cls d H, takes_of rfl rfl rfl rfl, fun x u σ H0 H' h0 hξ hu he hi => by
        cases h0
        exact hx x u H' hξ hu ⟨he, fun _ => hi⟩⟩
    refine h _ _ ξ O xo _ _ h2.2 H [] _ H (rep_start rfl hi (arsOk_to h1)) _ ⟨fun ρ σ H' c r => hq (.dat .none) .non H' rfl c ⟨r.ext, fun _ => r.inv⟩ .non, fun ρ σ H' c r => c.elim, fun ρ σ H' c r => c.elim, fun r v H' c e i q => hq r v H' c.1 c.2 ⟨e, fun _ => i⟩ (rtV_at.mp q)⟩
/-- what never raises may stand where one may raise -/
theorem okX_of_ok {k : Nat} {f : Addr} {fd : FuncData} {ps : List Str} {sp : Sp} (F : FnOk G.P G.w G.K G.mg G.base CX0 k f fd ps sp) : FnOk G.P G.w G.K G.mg G.base (L2.CX G.P G.w) k f fd ps sp :=
  ⟨F.len, fun A outer s H args us vs Q E hr e0 hb r h => codeAny_mono (F.run A outer s H args us vs Q E hr e0 hb r h) fun r s' q => by
    cases r with
    | error e => exact (show False from q).elim
    | ok fl => cases fl <;> exact q⟩
def orX (S : Sf) (T : SfX) : SfX := fun as C ξ => S as C ∨ T as C ξ
theorem ok_or {k : Nat} {f : Addr} {fd : FuncData} {ps : List Str} {S : Sf} {T : SfX} (F : FnOk G.P G.w G.K G.mg G.base CX0 k f fd ps (spD G τ S)) (F' : FnOk G.P G.w G.K G.mg G.base (L2.CX G.P G.w) k f fd ps (spX G τ T)) :
    FnOk G.P G.w G.K G.mg G.base (L2.CX G.P G.w) k f fd ps (spX G τ (orX S T)) := by
  have sep : ∀ vs H Q E, spX G τ (orX S T) vs H Q E → spD G τ S vs H Q E ∨ spX G τ T vs H Q E := fun vs H Q E ⟨as, C, ξ, a, b, c, d, e⟩ => by
    rcases c with c | c
    · exact .inl ⟨as, C, a, b, c, d⟩
    · exact .inr ⟨as, C, ξ, a, b, c, d, e⟩
  exact ⟨fun vs H Q E h => (sep _ _ _ _ h).elim (fun h => F.len _ _ _ _ h) fun h => F'.len _ _ _ _ h, fun A outer s H args us vs Q E hr e0 hb r h => (sep _ _ _ _ h).elim (fun h => (okX_of_ok F).run A outer s H args us vs Q E hr e0 hb r h) fun h => F'.run A outer s H args us vs Q E hr e0 hb r h⟩
theorem fnX_of {x : Str} {st : Stmt} {f : Addr} {fd : FuncData} {k : Nat} {ps : List Str} {S : SfX} (F : Dn G x st [] [] f fd) (ho : FnOk G.P G.w G.K G.mg G.base (L2.CX G.P G.w) k f fd ps (spX G τ S))
    (hb : ∀ (kV doc pm : Value) (an : Option Addr) (cdv ct : Value) (us : List Value), us.length = ps.length → bindArgs (PySem.W.fnOf x x (defArgs st) (defBody st) (defScope st) .none kV doc pm an cdv ct) ⟨us, []⟩ = pure (ps.zip us)) : FnX G τ k x ps S :=
  ⟨⟨f, fd, ho, F.gl, F.fn.kp, F.fn.bindsN hb⟩⟩
/-- plain parameters written with their names -/
theorem fnXP_of {x : Str} {st : Stmt} {kws : List (Str × V)} {f : Addr} {fd : FuncData} {ps : List Str} {j : Nat} {S : SfX} {n : Nat} {ks : List Str} (F : Dn G x st [] kws f fd) (ho : FnOk G.P G.w G.K G.mg G.base (L2.CX G.P G.w) j f fd ps (spX G τ S)) (g : {α : Type} → List α → List α → List α → List α)
    (hrel : ∀ {α β : Type} {Rr : α → β → Prop} {vs mz zs : List α} {us mv ws : List β}, Paired Rr vs us → Paired Rr mz mv → Paired Rr zs ws → Paired Rr (g vs mz zs) (g us mv ws))
    (h : ∀ (kV doc pm : Value) (an : Option Addr) (cdv ct : Value) (us ws : List Value), us.length = n → ws.length = ks.length →
      bindArgs (PySem.W.fnOf x x (defArgs st) (defBody st) (defScope st) .none kV doc pm an cdv ct) ⟨us, ks.zip ws⟩ = pure (ps.zip (g us [] ws))) :
    FnXK G τ j x ps S n ks (fun as bs => g as (List.replicate 0 (.dat .none)) bs) := by
  have hb : KBn G.K fd ps n ks (fun us ws => g us [] ws) (fun vs zs => g vs [] zs) := by
    obtain ⟨oc, od, dV, kV, doc, pm, an, cdv, ct, osl, rfl, lk, hcd, hD, hK⟩ := F.fn.ex
    rcases hD with ⟨_, rfl⟩ | ⟨e, _⟩
    · exact ⟨fun s us ws X l1 l2 => .of_eq (h kV doc pm an cdv ct us ws l1 l2), fun r1 r2 => hrel r1 .nil r2⟩
    · exact absurd rfl e
  exact ⟨⟨f, fd, _, _, ho, F.gl, F.fn.kp, hb, fun K H vs zs as bs h1 h2 => hrel h1 .nil h2⟩⟩
end
section
variable {τ : Tn} {G : Gx} {cp : List Str} {N : List Str} {sc : Scope} {k j n : Nat} {X : Cx} {e : Expr} {es : List Expr} {ta tk : UA} {pos p p2 pos' : Pos} {x m : Str} {ps ks : List Str} {S : SfX} {ξ : Xw} {kws : List Keyword}
/-- raise x("..") -/
def sRaise (ξ : Xw) (x : Str) : US := fun _ _ => ξ x
theorem js_raise {C : Addr} {jj : Nat} (O : Ok cp G N sc k X) (xo : XOk G τ ξ X) (hC : ExC G x C) (hg : sc.names.lookup x = some .globalImplicit := by rfl) (hdb : (x == ("__debug__" : Str)) = false := by decide) :
    JS τ X (.Raise (some (.Call (.Name x p) [.Constant (.str m) jj p2] [] pos)) none pos') (sRaise ξ x) := fun ρ E c H0 γ σ H r Dn d => by
  obtain ⟨W, tk, hW⟩ := xo
  exact wpS_of (ps_raise O.calm tk (pmk_own PySem.F.excBase_ValueError (by rw [O.eK]; exact hC.ex) (by rw [O.em]; exact hC.gl) (by rw [O.eK]; exact hC.kp) (raises_own (by rw [O.eK]; exact hC.sb) (by rw [O.eK]; exact hC.ty)) (by show X.env.scope.names.lookup x = _; rw [O.es]; exact hg) hdb))
    (hW x (.ref C) σ H0 H r.zz c ⟨C, rfl, hC⟩ r.ext r.inv)
def eCallX (S : SfX) (ξ : Xw) (t : UA) : UE := fun ρ C => t ρ fun as => S as C ξ
theorem je_callX (O : Ok cp G N sc k X) (xo : XOk G τ ξ X) (F : FnX G τ j x ps S) (ha : JA τ X (e :: es) ta) (hj : j ≤ k := by decide) (hg : sc.names.lookup x = some .globalImplicit := by rfl) (hdb : (x == ("__debug__" : Str)) = false := by decide)
    (he : starEach (e :: es) X.env = (false, eval e X.env) :: starEach es X.env := by rfl) (hpl : (backTo pos (starEach es X.env)).any (·.1) = false := by rfl) : JE τ X (.Call (.Name x p) (e :: es) [] pos) (eCallX S ξ ta) := by
  obtain ⟨f, fd, F, hm, hk, hb⟩ := F.ex
  obtain ⟨W, tk, hW⟩ := xo
  intro ρ C c H0 γ σ H r Q q
  refine wpE_of (pe_call (CX := L2.CX X.prog X.w) (k := j) (sp := spX G τ S) (E := fun cls d H => ∀ σ, W cls d σ H) (dvs := []) (ds := []) (by rw [O.eP, O.ew, O.eK, O.em, O.eb]; exact F) (O.room.mono hj) (by show X.env.scope.names.lookup x = _; rw [O.es]; exact hg) (by rw [O.em]; exact hm) (by rw [O.eK]; exact hk) (by rw [O.eK]; exact hb) .nil (passes_call tk fun cls d σ H h => h σ) pa_w hdb he hpl) ?_
  refine ha ρ _ c H0 γ σ H r _ fun as vs H2 c e1 h2 _ => ?_
  rw [List.append_nil]
  refine ⟨as, C, ξ, by rw [← O.eK]; exact h2, (r.after e1).inv, c, fun rs v H' l c e2 h => q rs v H' c (e1.trans e2) ?_, fun x u H' h1 h2 h3 σ' => ?_⟩
  · rw [← O.eK] at h
    exact RtV.rs r e1 e2 l h
  · have r3 := (r.after e1).after h3
    exact hW x u σ' H0 H' r.zz h1 h2 r3.ext r3.inv
def eCallXK (S : SfX) (ξ : Xw) (g : List Ar → List Ar → List Ar) (t u : UA) : UE := fun ρ C => t ρ fun as => u ρ fun bs => S (g as bs) C ξ
theorem je_callXK {g : List Ar → List Ar → List Ar} (O : Ok cp G N sc k X) (xo : XOk G τ ξ X) (F : FnXK G τ j x ps S n ks g) (ha : JA τ X (e :: es) ta) (hkw : JK τ X kws tk) (hn : (e :: es).length = n := by rfl) (hn2 : kws.length = ks.length := by rfl) (hj : j ≤ k := by decide) (hg : sc.names.lookup x = some .globalImplicit := by rfl)
    (hall : (backToKw pos (keywordEach kws X.env)).all (·.1.isSome) = true := by rfl) (hks : (backToKw pos (keywordEach kws X.env)).filterMap (·.1) = ks := by rfl)
    (hdb : (x == ("__debug__" : Str)) = false := by decide) (he : starEach (e :: es) X.env = (false, eval e X.env) :: starEach es X.env := by rfl)
    (hpl : ((backTo pos (starEach (e :: es) X.env)).any (·.1) || (backToKw pos (keywordEach kws X.env)).any (·.1.isNone)) = false := by rfl) : JE τ X (.Call (.Name x p) (e :: es) kws pos) (eCallXK S ξ g ta tk) := by
  obtain ⟨f, fd, gU, gV, F, hm, hk, hb, hrel⟩ := F.ex
  obtain ⟨W, tk, hW⟩ := xo
  intro ρ C c H0 γ σ H r Q q
  refine wpE_of (pe_callN (CX := L2.CX X.prog X.w) (k := j) (sp := spX G τ S) (E := fun cls d H => ∀ σ, W cls d σ H) (by rw [O.eP, O.ew, O.eK, O.em, O.eb]; exact F) (O.room.mono hj) (by show X.env.scope.names.lookup x = _; rw [O.es]; exact hg) (by rw [O.em]; exact hm) (by rw [O.eK]; exact hk) (by rw [O.eK]; exact hb) (passes_call tk fun cls d σ H h => h σ) pa_w pk_w hall hks hdb he hpl) ?_
  refine ha ρ _ c H0 γ σ H r _ fun as vs H2 c e1 h2 l1 => hkw ρ _ c H0 γ σ H2 (r.after e1) _ fun bs zs H3 c e2 h3 l2 => ⟨l1.trans hn, l2.trans hn2, ?_⟩
  refine ⟨_, C, ξ, ?_, ((r.after e1).after e2).inv, c, fun rs v H' l c e3 h => q rs v H' c ((e1.trans e2).trans e3) ?_, fun x u H' h1 h2 h3 σ' => ?_⟩
  · have h4 := hrel X.K H3 vs zs as bs (arsOk_after e2 h2) h3
    rw [O.eK] at h4
    exact h4
  · rw [← O.eK] at h
    exact RtV.rs r (e1.trans e2) e3 l h
  · have r3 := ((r.after e1).after e2).after h3
    exact hW x u σ' H0 H' r.zz h1 h2 r3.ext r3.inv
theorem je_callXK0 {g : List Ar → List Ar → List Ar} (O : Ok cp G N sc k X) (xo : XOk G τ ξ X) (F : FnXK G τ j x ps S 0 ks g) (hkw : JK τ X kws tk) (hn2 : kws.length = ks.length := by rfl) (hj : j ≤ k := by decide) (hg : sc.names.lookup x = some .globalImplicit := by rfl)
    (hall : (backToKw pos (keywordEach kws X.env)).all (·.1.isSome) = true := by rfl) (hks : (backToKw pos (keywordEach kws X.env)).filterMap (·.1) = ks := by rfl)
    (hdb : (x == ("__debug__" : Str)) = false := by decide)
    (hpl : ((backTo pos (starEach [] X.env)).any (·.1) || (backToKw pos (keywordEach kws X.env)).any (·.1.isNone)) = false := by rfl) : JE τ X (.Call (.Name x p) [] kws pos) (eCallXK S ξ g aNil tk) := by
  obtain ⟨f, fd, gU, gV, F, hm, hk, hb, hrel⟩ := F.ex
  obtain ⟨W, tk, hW⟩ := xo
  intro ρ C c H0 γ σ H r Q q
  refine wpE_of (pe_callN0 (CX := L2.CX X.prog X.w) (k := j) (sp := spX G τ S) (E := fun cls d H => ∀ σ, W cls d σ H) (by rw [O.eP, O.ew, O.eK, O.em, O.eb]; exact F) (O.room.mono hj) (by show X.env.scope.names.lookup x = _; rw [O.es]; exact hg) (by rw [O.em]; exact hm) (by rw [O.eK]; exact hk) (by rw [O.eK]; exact hb) (passes_call tk fun cls d σ H h => h σ) pk_w hall hks hdb hpl) ?_
  refine hkw ρ _ c H0 γ σ H r _ fun bs zs H3 c e2 h3 l2 => ⟨l2.trans hn2, ?_⟩
  refine ⟨_, C, ξ, ?_, (r.after e2).inv, c, fun rs v H' l c e3 h => q rs v H' c (e2.trans e3) ?_, fun x u H' h1 h2 h3 σ' => ?_⟩
  · have h4 := hrel X.K H3 [] zs [] bs .nil h3
    rw [O.eK] at h4
    exact h4
  · rw [← O.eK] at h
    exact RtV.rs r e2 e3 l h
  · have r3 := (r.after e2).after h3
    exact hW x u σ' H0 H' r.zz h1 h2 r3.ext r3.inv
end
end Pu
/-! ### a lambda handed to a def that calls it -/
namespace Pu
open PySem PySem.Spec PyProof.Rows L2
section
variable {X : Cx} {pins : List (Addr × Obj)} {σ : St} {H : Hp} {s : Shared}
/-- made: only the table at P has grown, a code object is there -/
theorem lam_mk {c P : Addr} {args : Arguments} {e : Expr} {lsc : Scope} {ps : Pos} {E : Value → Shared → Prop} {Q : Value → Shared → Prop} {q : Str} (hq : q = X.env.qual ++ "<lambda>")
    (TB : LamX.TabB X.base X.mg c P) (hcd : X.env.code = .ref c) (hT : LamX.TabS H P q) (hdf : defaultsOf args X.env = ([], [])) (hfr : ∀ y ∈ lsc.names, y.2 = .free → ∃ c, X.env.cells.lookup y.1 = some c) (I : Inv X pins σ H s)
    (k : ∀ (f c1 : Addr) (pm ct : Value) (H1 : Hp) (t : Shared), Inv X pins σ H1 t → (∀ b o, H b = some o → b ≠ P → H1 b = some o) → LamX.TabS H1 P q →
      t.heap.get? f = some (PySem.W.kla_obj "<lambda>" q args e lsc (cloFrom X.env.cells lsc.names []) pm c1 ct) → H1 f = none → f ∉ frs X.stack → H1 c1 = some (LamX.CodeO c1 q) → Q (.ref f) t) :
    wpAny (model X.prog X.w) X.A (eval (.Lambda args e lsc ps) X.env) Q E s := by
  subst hq
  obtain ⟨tb, h1, h2, h3⟩ := hT
  have gB := TB.bm.keeps I.bk
  have gP : s.heap.get? P = some { cls := .none, data := .fields tb } := I.hok P _ h1
  have new : ∀ a, s.heap.objs.size ≤ a → a ∉ frs X.stack := by
    intro a ha hm
    rcases List.mem_cons.mp (I.stkSub _ hm) with z | z
    · exact absurd (Nat.lt_of_lt_of_le (z ▸ I.lt) ha) (Nat.lt_irrefl _)
    · exact I.nofs ha z
  refine PySem.W.kla_eval hdf ?_
  cases am : codeAmong ps tb.toList with
  | some w =>
    obtain ⟨c1, rfl, hc1⟩ := h3 ps w am
    refine PySem.W.kla_makeFunctionHit (closure_ok hfr) I.ok.glob (I.mod.glob.keeps I.bk) hcd (TB.code.keeps I.bk) gP h2 am gB fun ct h' tk up hs => ?_
    exact k _ c1 _ ct H _ (I.kept fun b o z => Heap.get?_push_of_some _ (up b o z)) (fun _ _ z _ => z) ⟨tb, h1, h2, h3⟩ (Heap.get?_push_size _ rfl) (I.hok.fresh hs) (new _ hs) hc1
  | none =>
    refine PySem.W.kla_makeFunction (closure_ok hfr) I.ok.glob (I.mod.glob.keeps I.bk) hcd (TB.code.keeps I.bk) gP h2 am TB.gP gB fun c1 ct h' tk up ge lt rec htb => ?_
    obtain ⟨c2, oc, vs, t, r0, r1, r2, r3⟩ := rec
    obtain rfl := Value.ref.inj r0
    have big : s.heap.objs.size ≤ h'.objs.size := by omega
    have n1 : H c1 = none := I.hok.fresh ge
    have J := LamX.inv_table (q := X.env.qual ++ "<lambda>") (t' := tk) (more := #[rawInt ps.line, rawInt ps.col, .ref c1])
      (h' := h'.push (PySem.W.kla_obj "<lambda>" (X.env.qual ++ "<lambda>") args e lsc (cloFrom X.env.cells lsc.names []) ((X.mg "__name__").getD .none) c1 ct)) I h1
      (fun b o hb z => Heap.get?_push_of_some _ (up b o hb z)) (Heap.get?_push_of_some _ htb) ge ⟨oc, vs, t, Heap.get?_push_of_some _ r1, r2, r3⟩
    have nP : P ≠ c1 := ne_of_none h1 n1
    refine k _ c1 _ ct _ _ J (fun b o z hb => ?_) ⟨_, by rw [upd_ne nP]; exact upd_same, ?_, fun p' cv z => ?_⟩ (Heap.get?_push_size _ rfl) ?_ (new _ big) upd_same
    · rw [upd_ne (ne_of_none z n1), upd_ne hb]
      exact z
    · rw [Array.toList_append]
      exact PySem.TriplesOk_snoc _ _ _ _ h2
    · rw [Array.toList_append] at z
      rcases LamX.among_app _ h2 z with z | z
      · obtain ⟨c0, e1, e2⟩ := h3 p' cv z
        refine ⟨c0, e1, ?_⟩
        rw [upd_ne (ne_of_none e2 n1), upd_ne fun w => by rw [w, h1] at e2; cases e2]
        exact e2
      · exact ⟨c1, z, upd_same⟩
    · have d1 : h'.objs.size ≠ c1 := by omega
      have d2 : h'.objs.size ≠ P := Nat.ne_of_gt (Nat.lt_of_lt_of_le (Heap.lt_size gP) big)
      rw [upd_ne d1, upd_ne d2]
      exact I.hok.fresh big
/-- what the called def makes of the lambda's reading -/
abbrev Tel := XK → Hp → VK → Prop
def tHand (P : Addr) (q : Str) (TT : Tel → Hp → VK → Prop) (t : XK → TE) : TE := fun σ H Q => LamX.TabS H P q ∧ ∀ H1, (∀ b o, H b = some o → b ≠ P → H1 b = some o) → LamX.TabS H1 P q → TT (fun E H' Q' => t E σ H' Q') H1 Q
/-- x(lambda: e) -/
theorem pe_hand {TT : Tel → Hp → VK → Prop} {x a q : Str} {g c P : Addr} {k : Nat} {pg : Arguments} {bg : List Stmt} {sg : Scope} {dV kV doc pm cdv ct oc : Value} {an od : Option Addr} {osl : Array (Option Value)} {Ng : List Str}
    {args : Arguments} {e : Expr} {lsc : Scope} {t : XK → TE} {p lpos pos : Pos} (hq : q = X.env.qual ++ "<lambda>") (hg : Gl X x) (hm : X.mg x = some (.ref g)) (hk : PySem.W.keepIn X.K (.ref g) = true)
    (lk : X.K.lookup g = some ⟨oc, od, .func (PySem.W.fnOf x x pg bg sg dV kV doc pm an cdv ct), osl⟩) (hcg : PySem.W.codeIn X.K cdv x = true) (hb : L2.Binds X.K (PySem.W.fnOf x x pg bg sg dV kV doc pm an cdv ct) [a] []) (Sg : FnScope Ng [a] sg) (hNg : Ng[0]? = some a) (hva : Vis sg a)
    (hG : LamX.GivesTo X Ng x sg g cdv bg a q TT) (TB : LamX.TabB X.base X.mg c P) (hcd : X.env.code = .ref c) (hr : Room (k + 2) X.A) (L : LamX.LamS X.env.scope lsc) (hdf : defaultsOf args X.env = ([], []))
    (hbind : ∀ (q : Str) (cl : List (Str × Addr)) (pm cv ctv : Value), bindArgs (PySem.W.kla_fn "<lambda>" q args e lsc cl pm cv ctv) ⟨[], []⟩ = pure [])
    (hbody : ∀ (A : Around) (outer : List Env) (s : Shared) (H : Hp) (E : XK) (f c' : Addr), Room k (A.deeper (LamX.lamEnv X lsc s.heap.objs.size f c')) → PE (LamX.lamCx X A outer s H E lsc f c') e (t E))
    (hdb : (x == ("__debug__" : Str)) = false := by decide) (hd : (a == ("__debug__" : Str)) = false := by decide) (hcdn : (a == ("__classdict__" : Str)) = false := by decide) :
    PE X (.Call (.Name x p) [.Lambda args e lsc lpos] [] pos) (tHand P q TT t) := by
  subst hq
  refine ⟨fun pins s σ H Q I ⟨hT, h⟩ => wpAny_Call_Name_kw (ld_glob I hg hm ?_ hdb)⟩
  refine PySem.W.callWith_K (h₀ := X.base) I.ok.mod.kin hk ?_ (by rfl) (by rfl)
  refine Calls.spliced_cons (rest := backTo pos (starEach [] X.env)) (lam_mk rfl TB hcd hT hdf (L.has I.ok) I fun f c1 pm' ctv H1 s1 I1 up T1 o1 o2 o3 o4 => Calls.spliced_nil ⟨I1.kIn, ?_⟩)
  have run : codeAny (model X.prog X.w) X.A (.call (.ref g) ⟨[.ref f], []⟩) (CR C8.CX0 X.stack X.prog X.w H1 s1 Q C8.E0) s1 := by
    refine LamX.run_ofS (ps := [a]) (us := [.ref f]) (vs := [.ref f]) lk hcg Sg hr I1.env0 (hb s1 [.ref f] I1.kIn rfl) (.cons rfl .nil) rfl fun hr' => ?_
    obtain ⟨t', ht, hq'⟩ := hG f c1 s1 H1 Q (fun E H' Q' => t E σ H' Q') (fun W pn xe E p1 p2 tk hW => LamX.pe_act (i := 0) I1 L o1 o2 o3 (hbind _ _ _ _ _) tk hW hr' (fun A outer s H hr2 => hbody A outer s H E f c1 hr2) hNg hva hd hcdn) o4 (h H1 up T1)
    exact ⟨t', ht.nox, hq'⟩
  exact wpAny_call (codeAny_mono run fun r s2 hq => by
    cases r with
    | error e => exact False.elim hq
    | ok fl => cases fl <;> first | exact I1.after hq | exact False.elim hq)
end
end Pu
/-! ### try: .. except x as n: .., the exception kept -/
namespace Pu
open PySem PySem.Spec PyProof.Rows L2
/-- a caught exception of the class cls stands at a -/
def ExH (cls : Value) (a : Addr) : HO := .ext fun h => ∃ (oe : Obj) (vs : Array Value), h.get? a = some oe ∧ Zc cls none oe ∧ oe.data = .fields vs
theorem inv_track {X : Cx} {pins : List (Addr × Obj)} {σ : St} {H : Hp} {s : Shared} {a : Addr} {cls : Value} {oe : Obj} {vs : Array Value} (I : Inv X pins σ H s) (g : s.heap.get? a = some oe) (hz : Zc cls none oe) (hd : oe.data = .fields vs) (n : H a = none)
    (n0 : X.s_0.heap.get? a = none) (nL : X.env.locals ≠ a) (nC : ∀ x c, X.env.cells.lookup x = some c → c ≠ a) (nP : ∀ p ∈ X.pn ++ pins, p.1 ≠ a) : Inv X pins σ (upd H a (ExH cls a)) s := by
  have ne : ∀ b u, H b = some u → b ≠ a := fun b u e => ne_of_none e n
  have at0 : ∀ b o, X.s_0.heap.get? b = some o → b ≠ a := fun b o e z => by rw [z, n0] at e; cases e
  refine ⟨I.ok, I.os, I.bare, ⟨I.base.keep, I.base.slot, fun b o e h x => ?_, I.base.there, fun b xs e => ?_, fun b o u e => ?_, fun b ps e => ?_⟩, I.loc, I.cell, ?_, fun x c e => ?_, fun p hp => ?_, ?_, I.len⟩
  · rw [upd_ne (at0 b o e)]; exact I.base.free b o e h x
  · have q := I.base.tups b xs e
    rw [upd_ne (ne b _ q)]; exact q
  · have q := I.base.frzs b o u e
    rw [upd_ne (ne b _ q)]; exact q
  · obtain ⟨m, q⟩ := I.base.tbls b ps e
    exact ⟨m, by rw [upd_ne (ne b _ q)]; exact q⟩
  · rw [upd_ne nL]; exact I.free
  · rw [upd_ne (nC x c e)]; exact I.freeC x c e
  · obtain ⟨a1, a2, a3⟩ := I.pin p hp
    exact ⟨a1, by rw [upd_ne (nP p hp)]; exact a2, a3⟩
  · exact I.hok.laidN (fun _ _ q => q) n ⟨⟨oe, vs, g, hz, hd⟩, ⟨oe, g⟩, fun _ _ ⟨o, v, q, r⟩ k => ⟨o, v, k o q, r⟩⟩
/-- what such a clause wishes of a refusal of the body, the suite being: m = n -/
def wKeep (n : Nat) (K : PySem.W.Frag) (c : Value) (i j : Nat) (D : Ends) : WX := fun cls d σ H => d = none ∧ PySem.W.exmOne K cls c = some true ∧ ∀ a, H a = none → σ.length = n → D.nx (((σ.set i (some (.ref a))).set j (some (.ref a))).set i none) (upd H a (ExH cls a))
theorem ps_try_keep {X : Cx} {x n m : Str} {c : Value} {i j : Nat} {body : List Stmt} {np pos pos' p1 p2 p3 : Pos} {tb : WX → TS} (hs : X.stack = X.env :: X.outer) (hf : X.env.frame = some X.env.locals) (hex : X.ex = []) (nd : X.N.Nodup) (hi : X.N[i]? = some n) (hj : X.N[j]? = some m) (hij : i ≠ j)
    (hn : X.env.kindOf n = some .local) (hm : X.env.kindOf m = some .local) (hc : Names X x c) (hsw : ∀ env : Env, swapsWith (.Name n p2) (some (.Name m p1)) p3.line env = pure false) (hd : (n == ("__debug__" : Str)) = false) (hcd : (n == ("__classdict__" : Str)) = false)
    (hb : ∀ (W : WX) (pn : List (Addr × Obj)) (xe : Value → Shared → Prop), Takes (X.tr pn xe) W → PassesOwn (model X.prog X.w) X.A X.env xe → PSs (X.tr pn xe) body (tb W)) :
    PS X (.Try body [.ExceptHandler (some (.Name x np)) (some n) [.Assign [.Name m p1] (.Name n p2) p3] pos'] [] [] pos) (fun D σ H => tb (wKeep X.N.length X.K c i j D) D σ H) := by
  refine ⟨fun pins s σ H D I h => wpAny_Try_except ?_⟩
  have ok := I.ok
  have fr : X.A.frames = some (X.env :: X.outer) := by rw [ok.frames, hs]
  refine wpAny_mono ((hb (wKeep X.N.length X.K c i j D) (X.pn ++ pins) (fun e t => wpAny (model X.prog X.w) X.A (noteFrame e X.env) (fun _ t => wpAny (model X.prog X.w) X.A (setFlight e none) (fun _ t =>
    wpAny (model X.prog X.w) X.A (handleBy e X.env [.ExceptHandler (some (.Name x np)) (some n) [.Assign [.Name m p1] (.Name n p2) p3] pos']) (SP X pins D) X.xe t) X.xe t) X.xe t) (fun u t y => ?_) PassesOwn.looking).run [] s σ H D (I.toTry _) h) (fun fl t hsp => ?_) fun _ _ q => q
  · obtain ⟨a, B, sI, pins', σ', H', cls, d, rfl, J', nb, up, sky, na, os, ag, rfl, em, go⟩ := y
    have J : Inv X pins σ' H' sI := J'.ofTry ok
    rw [show (X.tr (X.pn ++ pins) _).stack = X.env :: X.outer from hs] at sky
    refine Sky.land Zc.steady fr hf sky fun h3 f3 up3 => ?_
    have J3 : Inv X pins σ' H' { t with heap := h3 } := J.landed nb f3.1 (up.trans up3) os ag
    obtain ⟨o3, v3, e3, z3, d3⟩ := f3.there
    have out : a ∉ frs (X.env :: X.outer) := fun hm => by
      obtain ⟨_, o', e', hnf⟩ := f3.2.2.1.mem hm
      rw [e3] at e'; cases e'
      exact hnf _ d3
    have nL : a ≠ X.env.locals := fun q => out (List.mem_filterMap.mpr ⟨X.env, List.mem_cons_self, by rw [hf, q]⟩)
    have nF : a ∉ X.fs := fun q => by
      obtain ⟨e, he, r⟩ := List.mem_filterMap.mp q
      exact out (List.mem_filterMap.mpr ⟨e, List.mem_cons_of_mem _ he, r⟩)
    have nI : sI.heap.get? a = none := by
      cases q : sI.heap.get? a with
      | none => rfl
      | some o =>
        have q2 := nb a o q (by rw [show (X.tr (X.pn ++ pins) _).stack = X.env :: X.outer from hs]; exact out)
        rw [f3.2.1] at q2; cases q2
    have S3 := J3.suite e3 d3 na nL nF
    refine wpAny_handleBy_cons (codeAny_handlers_test ?_) (by intro q; cases q)
    have LM := PySem.W.exm_one (M := model X.prog X.w) J3.kIn (fun A Q E t k q => wpAny_typeOf_ref (k _ _ e3) (by rw [z3.1]; exact q)) em
    have test : ∀ {Q : Value → Shared → Prop} {E : Value → Shared → Prop}, Q c { t with heap := h3 } → wpAny (model X.prog X.w) (X.A.mark (some (.ref a))) (eval (.Name x np) X.env) Q E { t with heap := h3 } := fun {Q E} q => by
      obtain ⟨hg, hdb, hm | ⟨hm, hv, hnn⟩⟩ := hc
      · exact ld_glob (X := X.suite a ((a, o3) :: (X.pn ++ pins))) S3 hg hm q hdb
      · exact ld_blt (X := X.suite a ((a, o3) :: (X.pn ++ pins))) S3 hg hm hv q hnn hdb
    refine test (LM.here (codeAny_handlers_suite_as (HandSPX.lands_againZ f3 fun h4 f4 up4 => ?_)))
    have J4 : Inv X pins σ' H' { t with heap := h4 } := J.landed nb f4.1 ((up.trans up3).trans up4) os ag
    obtain ⟨o4, v4, e4, z4, d4⟩ := f4.there
    have S4 := J4.suite e4 d4 na nL nF
    refine store_ok (X := X.suite a ((a, o4) :: (X.pn ++ pins))) (v := .ref a) S4 nd hi (.inl hn) rfl (fun t5 S5 => ?_) (.inr hn)
    have ph := pss_one (ps_set (X := X.suite a ((a, o4) :: (X.pn ++ pins))) (pos := p3) nd hj (.inl hm) (pe_var (i := i) (pos := p2) hi (.inl hn) hd hcd) (hsw _) (.inr hm))
    have il : i < σ'.length := by
      rw [J.len]
      exact (List.getElem?_eq_some_iff.mp hi).1
    refine wpAny_mono (ph.run [] t5 _ H' { nx := fun σ6 H6 => D.nx (σ6.set i none) (upd H6 a (ExH cls a)), rt := D.rt, bk := fun _ _ => False, ct := fun _ _ => False } S5 ⟨.ref a, List.getElem?_set_self il, go a na J.len⟩) (fun fl t6 hsp => ?_) fun _ _ q => q.elim
    cases fl with
    | next =>
      obtain ⟨σ6, H6, S6, q6⟩ := hsp
      refine gone_ok (X := X.suite a ((a, o4) :: (X.pn ++ pins))) S6 nd hi hn fun t7 S7 => ?_
      obtain ⟨p1', p2', _⟩ := S7.pin (a, o4) (List.mem_append.mpr (.inl List.mem_cons_self))
      have J7 : Inv X pins (σ6.set i none) H6 t7 := S7.unsuite ok
      refine ⟨_, _, inv_track J7 p1' z4 d4 p2' ?_ (Ne.symm nL) (fun y c' e z => ?_) (fun p hp z => ?_), q6⟩
      · cases q : X.s_0.heap.get? a with
        | none => rfl
        | some o =>
          obtain ⟨o', q'⟩ := J.base.there a o q (by rw [hex]; simp)
          rw [nI] at q'; cases q'
      · obtain ⟨w, oc, q, _⟩ := J.cell y c' e
        rw [z, nI] at q; cases q
      · have q := (J.pin p hp).1
        rw [z, nI] at q; cases q
    | brk =>
      obtain ⟨_, _, _, q⟩ := hsp
      exact q.elim
    | cont =>
      obtain ⟨_, _, _, q⟩ := hsp
      exact q.elim
    | ret u =>
      obtain ⟨v6, σ6, H6, S6, r6, q6⟩ := hsp
      exact gone_ok (S6.unsuite ok) nd hi hn fun t7 J7 => ⟨_, _, _, J7, r6, q6⟩
  · cases fl with
    | next =>
      obtain ⟨σ', H', J, q⟩ := hsp
      exact wpAny_execs_nil ⟨σ', H', J.ofTry ok, q⟩
    | brk =>
      obtain ⟨σ', H', J, q⟩ := hsp
      exact ⟨σ', H', J.ofTry ok, q⟩
    | cont =>
      obtain ⟨σ', H', J, q⟩ := hsp
      exact ⟨σ', H', J.ofTry ok, q⟩
    | ret u =>
      obtain ⟨v, σ', H', J, r, q⟩ := hsp
      exact ⟨v, σ', H', J.ofTry ok, r, q⟩
/-- isinstance(e, c), e a caught exception -/
def rIsK (K : PySem.W.Frag) : List V → Hp → VK → Prop := fun xs H Q => ∃ (a Da : Addr) (c : V) (cv : Value) (b : Bool), xs = [.ref a, c] ∧ H a = some (ExH (.ref Da) a) ∧ ExcC K Da ∧ (∀ u, RelV c u → u = cv) ∧ PySem.W.kitOne K (.ref Da) cv = some b ∧ Q (.bl b) H
theorem call_isK {X : Cx} : CallR X (.builtin "isinstance") (rIsK X.K) := by
  intro pins s σ H xs us Q I r h
  obtain ⟨a, Da, c, cv, b, rfl, ha, C, hcv, e, q⟩ := h
  cases r with
  | cons rx rr =>
    cases rr with
    | cons rt rr =>
      cases rr
      cases rx
      have ec := hcv _ rt
      subst ec
      obtain ⟨⟨oe, vs, hget, hz, hv⟩, _, _⟩ := I.hok a _ ha
      have J : PySem.W.InstAt s.heap a oe Da none := by
        obtain ⟨oc, od, oda, osl⟩ := oe
        obtain ⟨h1, h2⟩ := hz
        dsimp only at h1 h2 hv
        subst h1 h2 hv
        exact ⟨hget, rfl, rfl, trivial⟩
      exact PySem.W.kia_one (PySem.W.handS_kitx_exc C.hg C.hk C.hs C.hd C.ha C.hn C.ht C.hm) I.kIn J e (fun z => nomatch z) fun tk => ⟨.bl b, H, I.kept (t' := tk) fun _ _ z => z, rfl, q⟩
end Pu
/-! ### _law_heard: what is told, or how it is refused -/
namespace Pu
open PySem PySem.Spec PyProof.Rows L2
/-! d.update(e) -/
theorem putK_len {kvs : List (Key × V)} {k : Key} {v : V} : (putK kvs k v).length ≤ kvs.length + 1 := by
  unfold putK
  split <;> simp
theorem mergeK_len : ∀ {more kvs : List (Key × V)}, (mergeK kvs more).length ≤ kvs.length + more.length
  | [], kvs => Nat.le_refl _
  | p :: more, kvs => by
    have h1 := mergeK_len (more := more) (kvs := putK kvs p.1 p.2)
    have h2 := putK_len (kvs := kvs) (k := p.1) (v := p.2)
    have e : mergeK kvs (p :: more) = mergeK (putK kvs p.1 p.2) more := rfl
    rw [e, List.length_cons]
    omega
def rUpd : V → List V → Hp → VK → Prop := fun x xs H Q => ∃ (a b : Addr) (kvs more : List (Key × V)), x = .ref a ∧ xs = [.ref b] ∧ a ≠ b ∧ H a = some (.dK kvs) ∧ H b = some (.dK more) ∧ kvs.length + more.length ≤ sizeLine ∧ Q .non (upd H a (.dK (mergeK kvs more)))
theorem mt_upd {X : Cx} : MtR X "dict.update" rUpd := by
  intro pins s σ H x xs v us Q I rx rv h
  obtain ⟨a, b, kvs, more, rfl, rfl, ne, ha, hb, hl, q⟩ := h
  obtain rfl : v = Value.ref a := rx
  cases rv with
  | cons rb rn =>
    cases rn
    rename_i u
    obtain rfl : u = Value.ref b := rb
    obtain ⟨z, hd, vs, rel, dd⟩ := dk_of I.hok ha
    obtain ⟨z', hd', ws, rel', dd'⟩ := dk_of I.hok hb
    refine call_meetsIn PySem.F.slot_dict_update dd.typeIs PySem.F.entry_dict_update (PySem.F.args_dict_update_2 _ _) (meets_dict_update (mixKind X.prog X.w) a b ne hd') ⟨vs, ws, dd, dd', by rw [← rel.length, ← rel'.length]; exact hl, fun h' m1 _ sb => ?_⟩
    have he : ∃ q, h'.get? a = some q := let ⟨q, _, _, hq, _⟩ := m1; ⟨q, hq⟩
    exact ⟨.non, _, d_write (t' := s.toks) I (by rw [ha]; exact True.intro) sb he (dk_new (Nat.le_trans mergeK_len hl) hd (KV.merge rel' rel) m1), rfl, q⟩
/-! the def's slots: deed 0, refused 1, found 2, e 3, some 4, names 5, word 6 -/
abbrev Ngh : List Str := ["deed", "refused", "found", "e", "some", "names", "word"]
/-- isinstance(refused, y) tells b -/
def Kl (G : Gx) (C : Addr) (y : Str) (b : Bool) : Prop := ∃ cy, G.mg y = some (.ref cy) ∧ PySem.W.kitOne G.K (.ref C) (.ref cy) = some b
structure Hs (K : PySem.W.Frag) (H1 : Hp) (a C : Addr) (σ : St) (H : Hp) : Prop where
  r : σ[1]? = some (some (.ref a))
  ex : H a = some (ExH (.ref C) a)
  ec : ExcC K C
  up : ∀ b o, H1 b = some o → H b = some o
  len : σ.length = 7
structure Hd (K : PySem.W.Frag) (H1 : Hp) (a C : Addr) (kvs : List (Key × V)) (σ : St) (H : Hp) : Prop extends Hs K H1 a C σ H where
  d : ∃ d, σ[4]? = some (some (.ref d)) ∧ H d = some (.dK kvs) ∧ H1 d = none ∧ d ≠ a
section
variable {G : Gx} {sg : Scope} {k : Nat} {X : Cx} {C a : Addr} {H1 : Hp} {y y1 y2 k1 k2 : Str} {b b1 b2 : Bool} {kvs : List (Key × V)} {p p0 p1 p2 p3 p4 p5 p6 p7 p8 p9 q0 q1 q2 q3 q4 q5 q6 q7 q8 q9 pos : Pos} {j1 j2 : Nat}
theorem pe_isY (O : Ok [] G Ngh sg k X) (hi : Free G "isinstance") (hy : Kl G C y b) (hgi : sg.names.lookup ("isinstance" : Str) = some .globalImplicit) (hgy : sg.names.lookup y = some .globalImplicit) (hr : Vis sg "refused") (hdy : (y == ("__debug__" : Str)) = false) :
    PE X (.Call (.Name "isinstance" p) [.Name "refused" p1, .Name y p2] [] pos) (fun σ H Q => σ[1]? = some (some (.ref a)) ∧ H a = some (ExH (.ref C) a) ∧ ExcC X.K C ∧ Q (.bl b) H) := by
  obtain ⟨cy, h1, h2⟩ := hy
  have h := pe_callB (X := X) (p := p) (pos := pos) call_isK (by show X.env.scope.names.lookup ("isinstance" : Str) = _; rw [O.es]; exact hgi) (by rw [O.em]; exact hi) (by decide +kernel : bootBuiltins "isinstance" = some (.builtin "isinstance"))
    (pa_cons (pe_var (i := 1) (pos := p1) (by rw [O.eN]; rfl) (by rw [O.es]; exact hr) (by decide) (by decide)) (pa_cons (pe_glob (v := .ref cy) (pos := p2) (by show X.env.scope.names.lookup y = _; rw [O.es]; exact hgy) (by rw [O.em]; exact h1) rfl hdy) pa_nil))
  refine ⟨fun pins s σ H Q I ⟨e1, e2, e3, e4⟩ => h.run pins s σ H Q I ⟨_, e1, a, C, .ref cy, .ref cy, b, rfl, e2, e3, fun u r => r, by rw [O.eK]; exact h2, e4⟩⟩
/-- a display of two such -/
theorem pe_two (O : Ok [] G Ngh sg k X) (hi : Free G "isinstance") (h1 : Kl G C y1 b1) (h2 : Kl G C y2 b2) (hgi : sg.names.lookup ("isinstance" : Str) = some .globalImplicit) (hg1 : sg.names.lookup y1 = some .globalImplicit) (hg2 : sg.names.lookup y2 = some .globalImplicit) (hr : Vis sg "refused")
    (hd1 : (y1 == ("__debug__" : Str)) = false) (hd2 : (y2 == ("__debug__" : Str)) = false) (hne : k1 ≠ k2) {σ : St} {H : Hp} {Q : VK} (h : Hs X.K H1 a C σ H) (q : ∀ d, H d = none → Q (.ref d) (upd H d (.dK [(.inr k1, .bl b1), (.inr k2, .bl b2)]))) :
    wpE X (.Dict [some (.Constant (.str k1) j1 p1), some (.Constant (.str k2) j2 p2)] [.Call (.Name "isinstance" p3) [.Name "refused" p4, .Name y1 p5] [] p6, .Call (.Name "isinstance" p7) [.Name "refused" p8, .Name y2 p9] [] q0] q1) σ H Q := by
  refine wpE_of (pe_disp (pps_cons pe_str (pe_isY (a := a) O hi h1 hgi hg1 hr hd1) (pps_cons pe_str (pe_isY (a := a) O hi h2 hgi hg2 hr hd2) pps_nil)) rfl rfl (by simp) (by simp)) ?_
  intro d hd
  have ne : a ≠ d := ne_of_none h.ex hd
  have e1 : (upd H d (.dK [])) a = some (ExH (.ref C) a) := by rw [upd_ne ne]; exact h.ex
  refine ⟨h.r, e1, h.ec, h.r, e1, h.ec, upd_same, [(.inr k1, .bl b1), (.inr k2, .bl b2)], rfl, by simp, ?_⟩
  have em : mergeK [] [((.inr k1 : Key), V.bl b1), (.inr k2, .bl b2)] = [(.inr k1, .bl b1), (.inr k2, .bl b2)] := by
    simp [mergeK, putK, hne]
  rw [em, upd_upd]
  exact q d hd
/-- some = {..} -/
theorem h_some (O : Ok [] G Ngh sg k X) (hi : Free G "isinstance") (h1 : Kl G C y1 b1) (h2 : Kl G C y2 b2) (hgi : sg.names.lookup ("isinstance" : Str) = some .globalImplicit) (hg1 : sg.names.lookup y1 = some .globalImplicit) (hg2 : sg.names.lookup y2 = some .globalImplicit) (hr : Vis sg "refused") (hs : LocC [] sg "some")
    (hd1 : (y1 == ("__debug__" : Str)) = false) (hd2 : (y2 == ("__debug__" : Str)) = false) (hne : k1 ≠ k2)
    (hsw : ∀ env : Env, swapsWith (.Dict [some (.Constant (.str k1) j1 p1), some (.Constant (.str k2) j2 p2)] [.Call (.Name "isinstance" p3) [.Name "refused" p4, .Name y1 p5] [] p6, .Call (.Name "isinstance" p7) [.Name "refused" p8, .Name y2 p9] [] q0] q1) (some (.Name "some" q2)) q3.line env = pure false)
    {σ : St} {H : Hp} {D : Ends} (h : Hs X.K H1 a C σ H) (q : ∀ σ' H', Hd X.K H1 a C [(.inr k1, .bl b1), (.inr k2, .bl b2)] σ' H' → D.nx σ' H') :
    wpS X (.Assign [.Name "some" q2] (.Dict [some (.Constant (.str k1) j1 p1), some (.Constant (.str k2) j2 p2)] [.Call (.Name "isinstance" p3) [.Name "refused" p4, .Name y1 p5] [] p6, .Call (.Name "isinstance" p7) [.Name "refused" p8, .Name y2 p9] [] q0] q1) q3) D σ H := by
  refine wpS_of (ps_set (i := 4) (by rw [O.eN]; exact O.nd) (by rw [O.eN]; rfl) (loc_of O hs) pe_w (hsw _) (fn_of_loc O hs)) ?_
  refine pe_two O hi h1 h2 hgi hg1 hg2 hr hd1 hd2 hne h fun d hd => q _ _ ?_
  have ne : a ≠ d := ne_of_none h.ex hd
  refine ⟨⟨by rw [List.getElem?_set_ne (by decide)]; exact h.r, by rw [upd_ne ne]; exact h.ex, h.ec, fun b' o e => by rw [upd_ne (ne_of_none (h.up b' o e) hd)]; exact h.up b' o e, by rw [List.length_set]; exact h.len⟩, d, List.getElem?_set_self (by rw [h.len]; decide), upd_same, ?_, Ne.symm ne⟩
  cases e : H1 d with
  | none => rfl
  | some o => rw [h.up d o e] at hd; cases hd
/-- some.update({..}) -/
theorem h_upd (O : Ok [] G Ngh sg k X) (hi : Free G "isinstance") (h1 : Kl G C y1 b1) (h2 : Kl G C y2 b2) (hgi : sg.names.lookup ("isinstance" : Str) = some .globalImplicit) (hg1 : sg.names.lookup y1 = some .globalImplicit) (hg2 : sg.names.lookup y2 = some .globalImplicit) (hr : Vis sg "refused") (hs : Vis sg "some")
    (hd1 : (y1 == ("__debug__" : Str)) = false) (hd2 : (y2 == ("__debug__" : Str)) = false) (hne : k1 ≠ k2) (hl : kvs.length ≤ 1000) {kvs' : List (Key × V)} (hk' : mergeK kvs [(.inr k1, .bl b1), (.inr k2, .bl b2)] = kvs') (hline : (q3.endLine == q4.line) = true)
    (hst : ∀ env : Env, starEach [(.Dict [some (.Constant (.str k1) j1 p1), some (.Constant (.str k2) j2 p2)] [.Call (.Name "isinstance" p3) [.Name "refused" p4, .Name y1 p5] [] p6, .Call (.Name "isinstance" p7) [.Name "refused" p8, .Name y2 p9] [] q0] q1 : Expr)] env = (false, eval (.Dict [some (.Constant (.str k1) j1 p1), some (.Constant (.str k2) j2 p2)] [.Call (.Name "isinstance" p3) [.Name "refused" p4, .Name y1 p5] [] p6, .Call (.Name "isinstance" p7) [.Name "refused" p8, .Name y2 p9] [] q0] q1) env) :: starEach [] env)
    {σ : St} {H : Hp} {D : Ends} (h : Hd X.K H1 a C kvs σ H) (q : ∀ σ' H', Hd X.K H1 a C kvs' σ' H' → D.nx σ' H') :
    wpS X (.Expr (.Call (.Attribute (.Name "some" q2) "update" q3) [.Dict [some (.Constant (.str k1) j1 p1), some (.Constant (.str k2) j2 p2)] [.Call (.Name "isinstance" p3) [.Name "refused" p4, .Name y1 p5] [] p6, .Call (.Name "isinstance" p7) [.Name "refused" p8, .Name y2 p9] [] q0] q1] [] q4) q5) D σ H := by
  subst hk'
  obtain ⟨d, hd, hk, h0, hda⟩ := h.d
  refine wpS_of (ps_expr (pe_bm PySem.F.plainAttrs_dict PySem.F.slot_dict_update PySem.F.type_dict_update mt_upd (pe_var (i := 4) (by rw [O.eN]; rfl) (by rw [O.es]; exact hs) (by decide) (by decide)) (pa_cons pe_w pa_nil (hst _)) (by rfl) (by rw [hst]; rfl) hline (hst _))) ?_
  refine ⟨_, hd, .inr (.inr (.inl ⟨rfl, .inl ⟨_, hk⟩⟩)), ?_⟩
  refine pe_two O hi h1 h2 hgi hg1 hg2 hr hd1 hd2 hne h.toHs fun e he => ?_
  have ne : d ≠ e := ne_of_none hk he
  refine ⟨d, e, kvs, [(.inr k1, .bl b1), (.inr k2, .bl b2)], rfl, rfl, ne, by rw [upd_ne ne]; exact hk, upd_same, ?_, q _ _ ⟨⟨h.r, ?_, h.ec, fun b' o e' => ?_, h.len⟩, d, hd, upd_same, h0, hda⟩⟩
  · exact small_line (by simp; omega)
  · rw [upd_ne (Ne.symm hda), upd_ne (ne_of_none h.ex he)]; exact h.ex
  · rw [upd_ne (ne_of_none e' h0), upd_ne (ne_of_none (h.up b' o e') he)]; exact h.up b' o e'
/-- the words that are so -/
def yesW (kvs : List (Key × V)) : List V := (kvs.filter fun p => decide (p.2 = .bl true)).map fun p => kV p.1
/-- names = [word for word in some if some[word]] -/
theorem h_names {scope : Scope} (O : Ok [] G Ngh sg k X) (hs : Vis sg "some") (hn : sg.names.lookup ("names" : Str) = some .local) (hok : blkC Ngh sg scope [("word", 6)] = true) (hsw : (p0.line == p8.line) = true) (hsn : (scope.names.any fun (n, k) => n == ("names" : Str) && (k == .local || k == .cell)) = false)
    (hv1 : Vis (relS scope sg) "some") (hv2 : LocC (capt scope) (relS scope sg) "word") (hv3 : Vis (relS scope sg) "word") (nd : (kvs.map (·.1)).Nodup) (hb : ∀ p ∈ kvs, ∃ z, p.2 = V.bl z) (hl : kvs.length ≤ 1000)
    {σ : St} {H : Hp} {D : Ends} (h : Hd X.K H1 a C kvs σ H) (q : ∀ σ' H' n, Hs X.K H1 a C σ' H' → σ'[5]? = some (some (.ref n)) → H' n = some (.lst (yesW kvs)) → D.nx σ' H') :
    wpS X (.Assign [.Name "names" p0] (.ListComp (.Name "word" p1) [⟨.Name "word" p2, .Name "some" p3, [.Subscript (.Name "some" p4) (.Name "word" p5) p6], 0⟩] scope p8) p9) D σ H := by
  have hkd := (blkOk_by hok).kind
  have OB : ∀ s H C cl fp, Ok (capt scope) G Ngh (relS scope sg) k (X.blk s H scope (compEnvC scope cl C X.env) fp) := fun s H C cl fp => isBlk_ok O hkd ⟨s, H, C, cl, fp, rfl⟩
  obtain ⟨d, hd, hk, h0, hda⟩ := h.d
  refine wpS_of (ps_lock (ps_setLc (i := 5) (own := [("word", 6)]) (g := gName 6) (tt := fun σ2 H2 Q => tDGet (tVar 4) (tVar 6) σ2 H2 fun v H3 => ∃ z, v = .bl z ∧ Q z H3) (te := tVar 6) O.calm (by rw [O.eN]; exact O.nd) (by rw [O.eN]; rfl) (by rw [O.es]; exact hn)
    (sw_true (by rw [O.es]; exact O.kd) (by rw [O.es]; exact hn) hsw hsn) (pi_keys (pe_var (i := 4) (by rw [O.eN]; rfl) (by rw [O.es]; exact hs) (by decide) (by decide))) (by rw [O.eN, O.es]; exact blkOk_by hok)
    (fun s H C cl fp => pg_name (i := 6) (by rw [(OB s H C cl fp).eN]; exact (OB s H C cl fp).nd) (by rw [(OB s H C cl fp).eN]; rfl) (loc_of (OB s H C cl fp) hv2) (fn_of_loc (OB s H C cl fp) hv2))
    (fun s H C cl fp => pts_one (pt_val (pe_dget (by have := (OB s H C cl fp).room.un; omega) (pe_var (i := 4) (by rw [(OB s H C cl fp).eN]; rfl) (by rw [(OB s H C cl fp).es]; exact hv1) (by decide) (by decide)) (pe_var (i := 6) (by rw [(OB s H C cl fp).eN]; rfl) (by rw [(OB s H C cl fp).es]; exact hv3) (by decide) (by decide)) (fun _ _ => rfl))))
    (fun s H C cl fp => pe_var (i := 6) (by rw [(OB s H C cl fp).eN]; rfl) (by rw [(OB s H C cl fp).es]; exact hv3) (by decide) (by decide)))) ?_
  refine ⟨d, .dK kvs, hk, trivial, fun od => ?_⟩
  refine ⟨_, hd, d, od, rfl, .inl ⟨kvs, upd_same, fun L hL => ?_⟩⟩
  have hLd : L ≠ d := fun z => by rw [z, upd_same] at hL; cases hL
  have hL' : H L = none := by rw [upd_ne hLd] at hL; exact hL
  have wl : ∀ i, i ≠ 6 → (wipe σ [6])[i]? = σ[i]? := fun i hi => wipe_out (by simp; exact hi)
  refine lc_it (g := gName 6) (tt := fun σ2 H2 Q => tDGet (tVar 4) (tVar 6) σ2 H2 fun v H3 => ∃ z, v = .bl z ∧ Q z H3) (te := tVar 6) (vs := [6]) (σ := σ) (H1 := upd H d (.frz od (.dK kvs))) (D := L) (Qd := fun H' => H' d = some (.frz od (.dK kvs)) ∧ D.nx (σ.set 5 (some (.ref L))) (upd H' d (.dK kvs))) walk_keys (fun i H' => H' d = some (.frz od (.dK kvs)) ∧ (∀ b' o, H b' = some o → b' ≠ d → H' b' = some o) ∧ H' L = some (.lst (yesW (kvs.take i)))) ⟨?_, ?_, ?_⟩ (fun i H' _ p => p.1) (fun i x H' H'' hi g y => ?_) (fun H' g => ?_)
  · rw [upd_ne (Ne.symm hLd), upd_same]
  · intro b' o e hb'
    rw [upd_ne (ne_of_none e hL'), upd_ne hb']; exact e
  · exact upd_same
  · obtain ⟨g1, g2, g3⟩ := g
    obtain ⟨eH, kk, vv, gk, gx⟩ := y
    subst eH gx
    obtain ⟨z, hz⟩ := hb _ (List.mem_of_getElem? gk)
    simp only at hz
    subst hz
    have e6 : ((wipe σ [6]).set 6 (some (kV kk)))[6]? = some (some (kV kk)) := List.getElem?_set_self (by rw [wipe_length, h.len]; decide)
    have e4 : ((wipe σ [6]).set 6 (some (kV kk)))[4]? = some (some (.ref d)) := by rw [List.getElem?_set_ne (by decide), wl 4 (by decide)]; exact hd
    have gv : valV kvs kk = some (.bl z) := by
      clear g3 hi
      induction kvs generalizing i with
      | nil => simp at gk
      | cons p r ih =>
        cases i with
        | zero =>
          simp only [List.getElem?_cons_zero, Option.some.injEq] at gk
          subst gk
          exact valV_pos rfl
        | succ i =>
          simp only [List.getElem?_cons_succ] at gk
          have hm := List.mem_of_getElem? gk
          simp only [List.map_cons, List.nodup_cons] at nd
          have hne : ¬ p.1 = kk := fun z => nd.1 (by rw [z]; exact List.mem_map.mpr ⟨_, hm, rfl⟩)
          obtain ⟨p1, p2⟩ := p
          rw [valV_neg hne]
          unfold valV
          cases hf : r.find? fun kv => decide (kv.1 = kk) with
          | none =>
            have := List.find?_eq_none.mp hf _ hm
            simp at this
          | some w =>
            have hw := List.mem_of_find?_eq_some hf
            have hp := List.find?_some hf
            simp only [decide_eq_true_eq] at hp
            obtain ⟨i1, e1⟩ := List.getElem?_of_mem hw
            have : i1 = i := by
              have n2 := nd.2
              have a1 : (r.map (·.1))[i1]? = some kk := by rw [List.getElem?_map, e1]; simp [hp]
              have a2 : (r.map (·.1))[i]? = some kk := by rw [List.getElem?_map, gk]; rfl
              have l1 := (List.getElem?_eq_some_iff.mp a1).1
              exact (List.getElem?_inj l1 n2).mp (a1.trans a2.symm)
            subst this
            rw [gk] at e1
            cases e1
            rfl
    refine ⟨?_, _, e4, _, e6, d, .bl z, rfl, .inl ⟨kvs, kk, .inr ⟨od, g1⟩, rfl, gv.symm⟩, z, rfl, ?_⟩
    · rw [wipe_set (by decide)]
      apply List.ext_getElem?
      intro j
      by_cases hj : j ∈ [6]
      · rw [wipe_in hj, wipe_in hj, wipe_length]
      · simp only [wipe_out hj]
    · have tk : kvs.take (i + 1) = kvs.take i ++ [(kk, .bl z)] := by rw [List.take_add_one, gk]; rfl
      have nn : ∀ b' o, H b' = some o → b' ≠ L := fun b' o e => ne_of_none e hL'
      cases z with
      | true =>
        refine iteT ⟨_, e6, _, g3, ?_, ?_, ?_, ?_⟩
        · refine Nat.lt_of_le_of_lt (Nat.le_trans (by unfold yesW; rw [List.length_map]; exact List.length_filter_le _ _) (Nat.le_trans (List.length_take_le _ _) (Nat.le_of_lt hi))) (small1000 hl)
        · rw [upd_ne (Ne.symm hLd)]; exact g1
        · intro b' o e hb'
          rw [upd_ne (nn b' o e)]; exact g2 b' o e hb'
        · rw [upd_same, tk]
          simp [yesW]
      | false =>
        refine iteF ⟨g1, g2, ?_⟩
        rw [g3, tk]
        simp [yesW]
  · obtain ⟨g1, g2, g3⟩ := g
    refine ⟨g1, q _ _ L ⟨?_, ?_, h.ec, fun b' o e => ?_, ?_⟩ ?_ ?_⟩
    · rw [List.getElem?_set_ne (by decide)]; exact h.r
    · rw [upd_ne (Ne.symm hda)]; exact g2 a _ h.ex (Ne.symm hda)
    · rw [upd_ne (ne_of_none e h0)]; exact g2 b' o (h.up b' o e) (ne_of_none e h0)
    · rw [List.length_set]; exact h.len
    · exact List.getElem?_set_self (by rw [h.len]; decide)
    · rw [upd_ne hLd, g3, List.take_length]
/-- return (names[0],) if len(names) == 1 and isinstance(refused, ValueError) else ("is wrong",) -/
theorem h_ret {w : Str} {e2 : Expr} {n : Addr} {t2 : Nat} (O : Ok [] G Ngh sg k X) (hi : Free G "isinstance") (hln : Free G "len") (hve : Free G "ValueError") (hgi : sg.names.lookup ("isinstance" : Str) = some .globalImplicit) (hgl : sg.names.lookup ("len" : Str) = some .globalImplicit) (hgv : sg.names.lookup ("ValueError" : Str) = some .globalImplicit)
    (hr : Vis sg "refused") (hn : Vis sg "names") (hk : PySem.W.kitOne G.K (.ref C) (.type "ValueError") = some true)
    {σ : St} {H : Hp} {D : Ends} (h : Hs X.K H1 a C σ H) (h5 : σ[5]? = some (some (.ref n))) (hN : H n = some (.lst [.str w])) (q : ∀ p, H p = none → D.rt (.ref p) (upd H p (.tup [.str w]))) :
    wpS X (.Return (some (.IfExp (.BoolOp .And [.Compare (.Call (.Name "len" p) [.Name "names" p1] [] p2) [.Eq] [.Constant (.int 1) j1 p3] p4, .Call (.Name "isinstance" p5) [.Name "refused" p6, .Name "ValueError" p7] [] p8] p9)
      (.Tuple [.Subscript (.Name "names" q1) (.Constant (.int 0) j2 q2) q3] t2 q4) e2 q5)) q6) D σ H := by
  have hv : PE X (.Call (.Name "isinstance" p5) [.Name "refused" p6, .Name "ValueError" p7] [] p8) (fun σ H Q => σ[1]? = some (some (.ref a)) ∧ H a = some (ExH (.ref C) a) ∧ ExcC X.K C ∧ Q (.bl true) H) := by
    have h := pe_callB (X := X) (p := p5) (pos := p8) call_isK (by show X.env.scope.names.lookup ("isinstance" : Str) = _; rw [O.es]; exact hgi) (by rw [O.em]; exact hi) (by decide +kernel : bootBuiltins "isinstance" = some (.builtin "isinstance"))
      (pa_cons (pe_var (i := 1) (pos := p6) (by rw [O.eN]; rfl) (by rw [O.es]; exact hr) (by decide) (by decide)) (pa_cons (pe_bltn (v := .ty "ValueError") (pos := p7) (by show X.env.scope.names.lookup ("ValueError" : Str) = _; rw [O.es]; exact hgv) (by rw [O.em]; exact hve) (by decide +kernel : bootBuiltins "ValueError" = some (.type "ValueError")) rfl) pa_nil))
    exact ⟨fun pins s σ H Q I ⟨e1, e2, e3, e4⟩ => h.run pins s σ H Q I ⟨_, e1, a, C, .ty "ValueError", .type "ValueError", true, rfl, e2, e3, fun u r => r, by rw [O.eK]; exact hk, e4⟩⟩
  refine wpS_of (ps_ret (pe_ifExp (PW.pt (pw_and (pt_cmpR op_eq (pe_callB call_len_seq (by show X.env.scope.names.lookup ("len" : Str) = _; rw [O.es]; exact hgl) (by rw [O.em]; exact hln) (by decide +kernel) (pa_cons (pe_var (i := 5) (by rw [O.eN]; rfl) (by rw [O.es]; exact hn) (by decide) (by decide)) pa_nil)) pe_int (nomark _)) (pw_and1 (pt_val hv))))
    (pe_tup (pa_cons (pe_ix ix_list (pe_var (i := 5) (by rw [O.eN]; rfl) (by rw [O.es]; exact hn) (by decide) (by decide)) pe_int (fun _ _ => rfl)) pa_nil)) pe_w)) ?_
  refine ⟨_, h5, n, _, rfl, .inl (SqL.of hN), rfl, _, rfl, iteT ⟨h.r, h.ex, h.ec, true, rfl, iteT ?_⟩⟩
  exact ⟨_, h5, n, _, _, _, rfl, rfl, SqL.of hN, rfl, by show 1 ≤ sizeLine; decide, q⟩
end
end Pu
/-! ### _law_heard(lambda: e) -/
namespace Pu
open PySem PySem.Spec PyProof.Rows L2
/-- the table of the def in which lambdas are made -/
structure LamOk (τ : Tn) (X : Cx) (c P : Addr) (q : Str) : Prop where
  TB : LamX.TabB X.base X.mg c P
  cd : X.env.code = .ref c
  hq : q = X.env.qual ++ "<lambda>"
  ad : τ.ad P
  tab : ∀ H, τ.inv H → LamX.TabS H P q
  keep : ∀ H H1, τ.inv H → (∀ b o, H b = some o → b ≠ P → H1 b = some o) → LamX.TabS H1 P q → τ.inv H1
theorem lamOk_tw {T R c P : Addr} {Ts : List (Addr × Str)} {z : Hp → Prop} {X : Cx} {q : Str} {G : Gx} {cd : Value} {qx : Str} (em : X.mg = G.mg) (eb : X.base = G.base) (TB : LamX.TabB G.base G.mg c P) (at_ : AtC X cd qx) (hcd : cd = .ref c) (hq : q = qx ++ "<lambda>") (hm : (P, q) ∈ Ts) (hu : ∀ p ∈ Ts, p.1 = P → p.2 = q) : LamOk (tw T R Ts z) X c P q where
  TB := by rw [em, eb]; exact TB
  cd := at_.code.trans hcd
  hq := by rw [at_.qual]; exact hq
  ad := .inr (.inr ⟨_, hm, rfl⟩)
  tab := fun H h => h.2 _ hm
  keep := fun H H1 h up t => by
    obtain ⟨⟨n, c0, kvs, h1, h2, h3⟩, ht⟩ := h
    obtain ⟨ps, g1, _, _⟩ := ht _ hm
    have nT : T ≠ P := fun e => by rw [e, g1] at h1; cases h1
    have nR : R ≠ P := fun e => by rw [e, g1] at h2; cases h2
    refine ⟨⟨n, c0, kvs, up T _ h1 nT, up R _ h2 nR, h3⟩, fun p hp => ?_⟩
    by_cases e : p.1 = P
    · rw [hu p hp e, e]; exact t
    · obtain ⟨ps', f1, f2, f3⟩ := ht p hp
      refine ⟨ps', up _ _ f1 e, f2, fun pos cv hc => ?_⟩
      obtain ⟨c1, e1, e2⟩ := f3 pos cv hc
      exact ⟨c1, e1, up _ _ e2 fun e => by rw [e, g1] at e2; cases e2⟩
/-- all is laid still -/
def frzS : Sl → Sl
  | .lst ds => .dat (.list ds)
  | .dic _ => .un
  | .dtc _ => .un
  | .th _ => .un
  | .dls _ => .un
  | s => s
theorem Rep.freeze {K : PySem.W.Frag} {τ : Tn} {H0 H : Hp} {γ : List (V × D)} {σ : St} {ρ : En} {z : Hp → Prop} (r : Rep K τ H0 γ H σ ρ) (hz : z H) : Rep K (τ.at_ z) H [] H σ (ρ.map frzS) := by
  have nown : ∀ {i : Nat} {s : Sl}, (ρ.map frzS)[i]? = some s → s.isOwn = false := fun {i s} h => by
    rw [List.getElem?_map] at h
    obtain ⟨u, _, rfl⟩ := Option.map_eq_some_iff.mp h
    cases u <;> rfl
  have only : ∀ a, own (τ.at_ z) σ (ρ.map frzS) a → τ.ad a := fun a h => by
    rcases h with h | ⟨i, s, h1, h2, _⟩
    · exact h
    · rw [nown h1] at h2; cases h2
  have le : Same (res H (own τ σ ρ)) (res H (own (τ.at_ z) σ (ρ.map frzS))) := res_mono fun a o n e => ⟨fun y => n (own_ad (only a y)), e⟩
  refine ⟨by rw [List.length_map]; exact r.len, fun _ _ e _ => e, r.inv, fun i s h => ?_, fun i j s t a h1 _ h3 => ?_, (fun p hp => by cases hp), hz⟩
  · rw [List.getElem?_map] at h
    obtain ⟨u, hu, rfl⟩ := Option.map_eq_some_iff.mp h
    have q := r.sl i u hu
    cases u with
    | un => trivial
    | dat d =>
      obtain ⟨v, e1, e2⟩ := q
      exact ⟨v, e1, dp_same le _ _ e2⟩
    | lst ds =>
      obtain ⟨a, vs, e1, _, hn, e2, e3⟩ := q
      exact ⟨_, e1, .lst (.inl (.inl (res_put (fun y => hn (only a y)) e2))) (dpAll_same le _ _ e3)⟩
    | dic kds => trivial
    | town => exact q
    | ldc kds =>
      obtain ⟨a, od, kvs, e1, e2, e3⟩ := q
      exact ⟨a, od, kvs, e1, le _ _ e2, KvOk.same le e3⟩
    | dtc kds => trivial
    | th x => trivial
    | dls m => trivial
    | tv x =>
      obtain ⟨a, e1, e2⟩ := q
      exact ⟨a, e1, e2.same le⟩
    | tl x =>
      obtain ⟨a, od, o, e1, e2, e3⟩ := q
      exact ⟨a, od, o, e1, le _ _ e2, e3.same le⟩
  · rw [nown h1] at h3; cases h3
/-- the refusal C is heard as w -/
def keysH : List (Str × Str) := [("NoDate", "no date"), ("BadWay", "bad way"), ("NoText", "no text"), ("NoEdition", "no edition"), ("NoZone", "no zone"), ("NoComing", "no coming"), ("NoWork", "no work"), ("BadRate", "bad rate"), ("BadZones", "bad zones"), ("BadName", "bad name"), ("Taken", "taken"), ("BadWish", "bad wish"), ("BadTask", "bad task"), ("NoWish", "no wish"), ("NoRing", "no ring"), ("NoBack", "no back")]
def kvN (bs : Str → Bool) (n : Nat) : List (Key × V) := (keysH.take n).map fun y => ((.inr y.2 : Key), V.bl (bs y.1))
theorem kvN_len {bs : Str → Bool} {n : Nat} : (kvN bs n).length ≤ 1000 := by
  unfold kvN
  rw [List.length_map, List.length_take]
  exact Nat.le_trans (Nat.min_le_right _ _) (by decide)
theorem kvN_bl {bs : Str → Bool} {n : Nat} : ∀ p ∈ kvN bs n, ∃ z, p.2 = V.bl z := fun p hp => by
  obtain ⟨y, _, rfl⟩ := List.mem_map.mp hp
  exact ⟨_, rfl⟩
structure HearOk (G : Gx) (C : Addr) (bs : Str → Bool) (w : Str) : Prop where
  ec : ExcC G.K C
  te : ∃ CT, G.mg "TimeError" = some (.ref CT) ∧ PySem.W.exmOne G.K (.ref C) (.ref CT) = some true
  ve : PySem.W.kitOne G.K (.ref C) (.type "ValueError") = some true
  kl : ∀ y ∈ keysH, Kl G C y.1 (bs y.1)
  yes : yesW (keysH.map fun y => ((.inr y.2 : Key), V.bl (bs y.1))) = [.str w]
/-- how the heard refusals are called -/
abbrev Hn := Str → Option Str
def HearAll (G : Gx) (hn : Hn) : Prop := ∀ x C w, ExC G x C → hn x = some w → ∃ bs, HearOk G C bs w
def HearE (G : Gx) (Q : VK) : XK := fun cls d H' => ∃ C bs w, d = none ∧ cls = .ref C ∧ HearOk G C bs w ∧ ∀ p H'', Same H' H'' → H' p = none → H'' p = some (.tup [.str w]) → Q (.ref p) H''
def HearQ (Q : VK) : VK := fun v H' => ∀ p, H' p = none → Q (.ref p) (upd H' p (.tup [.str "told", v]))
def TTh (G : Gx) : Tel → Hp → VK → Prop := fun tl H Q => ∀ H0, Same H H0 → ∀ (Ech : XK) (Qn : VK), (∀ cls d H', HearE G Q cls d H' → Ech cls d H') → (∀ v H', HearQ Q v H' → Qn v H') → tl Ech H0 Qn
/-- what is known of the def _law_heard -/
structure HearD (G : Gx) (g : Addr) : Prop where
  ex : ∃ (oc dV kV doc pm cdv ct : Value) (od an : Option Addr) (osl : Array (Option Value)) (pg : Arguments) (bg : List Stmt) (sg : Scope), G.mg "_law_heard" = some (.ref g) ∧ PySem.W.keepIn G.K (.ref g) = true ∧
    G.K.lookup g = some ⟨oc, od, .func (PySem.W.fnOf "_law_heard" "_law_heard" pg bg sg dV kV doc pm an cdv ct), osl⟩ ∧ PySem.W.codeIn G.K cdv "_law_heard" = true ∧ L2.Binds G.K (PySem.W.fnOf "_law_heard" "_law_heard" pg bg sg dV kV doc pm an cdv ct) ["deed"] [] ∧
    FnScope Ngh ["deed"] sg ∧ Vis sg "deed" ∧ ∀ (X : Cx) (q : Str), X.prog = G.P → X.w = G.w → X.K = G.K → X.mg = G.mg → X.base = G.base → Room 1 X.A → LamX.GivesTo X Ngh "_law_heard" sg g cdv bg "deed" q (TTh G)
def eHeard (hn : Hn) (tb : Xw → UV) : UV := fun ρ C => tb (fun x => ∃ w, hn x = some w ∧ C (.tuple [.str w])) (ρ.map frzS) fun d => lf d = true ∧ C (.tuple [.str "told", d])
section
variable {τ : Tn} {G : Gx} {cp : List Str} {N : List Str} {sc lsc : Scope} {k j : Nat} {X : Cx} {e : Expr} {args : Arguments} {p lpos pos : Pos} {g c P : Addr} {q : Str} {hn : Hn} {tb : Xw → UV}
theorem jd_heard (O : Ok cp G N sc k X) (L : LamOk τ X c P q) (Hd : HearD G g) (Ha : HearAll G hn) (hb : ∀ z X' ξ, Ok [] G N lsc j X' → XOk G (τ.at_ z) ξ X' → JD (τ.at_ z) X' e (tb ξ)) (hj : j + 2 ≤ k := by decide)
    (hL : LamX.lamSB sc lsc = true := by decide +kernel) (hg : sc.names.lookup ("_law_heard" : Str) = some .globalImplicit := by rfl) (hdf : ∀ env : Env, defaultsOf args env = ([], []) := by intro _; rfl)
    (hbd : ∀ (q : Str) (cl : List (Str × Addr)) (pm cv ctv : Value), bindArgs (PySem.W.kla_fn "<lambda>" q args e lsc cl pm cv ctv) ⟨[], []⟩ = pure [] := by intro _ _ _ _ _; rfl) :
    JD τ X (.Call (.Name "_law_heard" p) [.Lambda args e lsc lpos] [] pos) (eHeard hn tb) := by
  obtain ⟨oc, dV, kV, doc, pm, cdv, ct, od, an, osl, pg, bg, sg, h1, h2, h3, h4, h5, h6, h7, h8⟩ := Hd.ex
  have LS : LamX.LamS X.env.scope lsc := by rw [O.es]; exact LamX.lamS_by hL
  intro ρ C cc H0 γ σ H r Q qq
  refine wpE_of (pe_hand (k := j) (t := fun E σ H Q => ∀ (A : Around) (outer : List Env) (s : Shared) (HH : Hp) (f c' : Addr), Room j (A.deeper (LamX.lamEnv X lsc s.heap.objs.size f c')) → wpE (LamX.lamCx X A outer s HH E lsc f c') e σ H Q) L.hq (by show X.env.scope.names.lookup _ = _; rw [O.es]; exact hg) (by rw [O.em]; exact h1) (by rw [O.eK]; exact h2) (by rw [O.eK]; exact h3) (by rw [O.eK]; exact h4) (by rw [O.eK]; exact h5) h6 rfl h7
    (h8 X q O.eP O.ew O.eK O.em O.eb (O.room.mono (by omega))) L.TB L.cd (O.room.mono hj) LS (hdf _) hbd (fun A outer s HH E f c' hr => ⟨fun pins s' σ H' Q I h => pe_w.run pins s' σ H' Q I (h A outer s HH f c' hr)⟩)) ?_
  refine ⟨L.tab H r.inv, fun H1 up t1 H2 s2 Ech Qn hE hQ A outer s HH f c' hr => ?_⟩
  have e1 : Ext τ H H1 := ⟨fun a o ea na => up a o ea fun z => na (by rw [z]; exact L.ad), fun hi => L.keep H H1 hi up t1⟩
  have e2 : Ext τ H1 H2 := .of_same s2
  have r2 := (r.after e1).after e2
  have rf : Rep X.K (τ.at_ fun H0 => H0 = H2) H2 [] H2 σ (ρ.map frzS) := r2.freeze rfl
  have O' : ∀ E, Ok [] G N lsc j (LamX.lamCx X A outer s HH E lsc f c') := fun E => ⟨O.eP, O.ew, O.eK, O.em, O.eb, O.eN, O.nd, rfl, LS.kind, rfl, hr, fun x hx _ => absurd rfl (LS.own _ (PySem.mem_of_lookup hx)).2, PassesOwn.leaving⟩
  refine hb (fun H0 => H0 = H2) _ (fun x => ∃ w, hn x = some w ∧ C (.tuple [.str w])) (O' _) ⟨fun cls d _ H => _, takes_of rfl rfl rfl rfl, fun x u σ' H0' H' hz hξ hu he hi => ?_⟩ _ _ cc H2 [] σ H2 rf _ fun d v H3 cd e3 b => ?_
  · cases hz
    obtain ⟨w, hw, hC⟩ := hξ
    obtain ⟨Ca, rfl, hEx⟩ := hu
    obtain ⟨bs, hok⟩ := Ha x Ca w hEx hw
    refine hE _ _ _ ⟨Ca, bs, w, rfl, rfl, hok, fun p' H'' sm hp hp' => ?_⟩
    have e3 : Ext τ H2 H' := ⟨he, fun _ => hi⟩
    have e4 : Ext τ H' H'' := .of_same sm
    have e5 := ((e1.trans e2).trans e3).trans e4
    have r5 := r.after e5
    have r3 := r.after ((e1.trans e2).trans e3)
    have no : ¬ own τ σ ρ p' := fun z => by
      obtain ⟨o, eo, _⟩ := r3.ownMut z
      rw [hp] at eo; cases eo
    exact qq _ _ _ hC e5 (.tup (.inl (.inl (res_put no hp' ⟨_, rfl, fun _ z => nomatch z⟩))) (.cons (.str _) .nil))
  · refine hQ _ _ fun p' hp' => ?_
    have e3' : Ext τ H2 H3 := e3.of_at
    have e5 := ((e1.trans e2).trans e3').trans (Ext.new (τ := τ) (o := .tup [.str "told", v]) hp')
    have r3 := r.after ((e1.trans e2).trans e3')
    have r5 := r.after e5
    refine qq _ _ _ cd.2 e5 (.tup (.inl (.inl (res_put (r3.notOwn hp') upd_same ⟨_, rfl, fun _ z => nomatch z⟩))) (.cons (.str _) (.cons ?_ .nil)))
    exact dp_after (Ext.new hp') (r3.lfRes (fun a z => r3.ownMut z) res_le (fun _ _ => res_ok) cd.1 b)
end
end Pu
namespace Pu
open PySem PySem.Spec PyProof.Rows L2
/-- the first three statements of _law_heard -/
def tnF (f : Addr) : Tn := ⟨fun _ => False, fun _ => True, .ref f, fun _ h => h.elim, fun _ _ => trivial, fun _ => True⟩
section
variable {G : Gx} {sg : Scope} {g : Addr} {cdv : Value} {q : Str} {p1 p2 p3 p4 p5 p6 p7 p8 p9 q0 q1 q2 q3 q4 q5 q6 q7 q8 q9 r0 r1 r2 r3 : Pos} {t1 t2 t3 j1 j2 j3 j4 : Nat} {rest : List Stmt}
theorem hear_gives {X : Cx} (eP : X.prog = G.P) (ew : X.w = G.w) (eK : X.K = G.K) (em : X.mg = G.mg) (eb : X.base = G.base) (hr : Room 1 X.A) (S : FnScope Ngh ["deed"] sg) (hd : Vis sg "deed") (hv1 : sg.names.lookup ("refused" : Str) = some .local) (hv2 : sg.names.lookup ("found" : Str) = some .local) (hv3 : sg.names.lookup ("e" : Str) = some .local)
    (hT : sg.names.lookup ("TimeError" : Str) = some .globalImplicit) (hTm : ∃ CT, G.mg "TimeError" = some (.ref CT))
    (hw : swappedStores [.Tuple [.Name "refused" p1, .Name "found" p2] t1 p3] (.Tuple [.Constant .none j1 p4, .Constant .none j2 p5] t2 p6) { (default : Env) with scope := sg } = pure none)
    (hs0 : ∀ env : Env, swapsWithSole [.Tuple [.Name "refused" p1, .Name "found" p2] t1 p3] (.Tuple [.Constant .none j1 p4, .Constant .none j2 p5] t2 p6) p7.line env = pure false)
    (hs1 : ∀ env : Env, swapsWith (.Name "e" r1) (some (.Name "refused" r0)) r2.line env = pure false) (hs2 : ∀ env : Env, swapsWith (.Call (.Name "deed" p9) [] [] q0) (some (.Name "found" p8)) q1.line env = pure false)
    (hrest : ∀ (Y : Cx) (H1 : Hp) (a C : Addr) (bs : Str → Bool) (w : Str) (σ : St) (D : Ends), Ok [] G Ngh sg 0 Y → HearOk G C bs w → Hs Y.K H1 a C σ H1 → (∀ p H'', Same H1 H'' → H1 p = none → H'' p = some (.tup [.str w]) → D.rt (.ref p) H'') → wpSs Y rest D σ H1) :
    LamX.GivesTo X Ngh "_law_heard" sg g cdv (.Assign [.Tuple [.Name "refused" p1, .Name "found" p2] t1 p3] (.Tuple [.Constant .none j1 p4, .Constant .none j2 p5] t2 p6) p7 ::
      .Try [.Assign [.Name "found" p8] (.Call (.Name "deed" p9) [] [] q0) q1] [.ExceptHandler (some (.Name "TimeError" q2)) (some "e") [.Assign [.Name "refused" r0] (.Name "e" r1) r2] q4] [] [] q5 ::
      .If (.Compare (.Name "refused" q6) [.Is] [.Constant .none j3 q7] q8) [.Return (some (.Tuple [.Constant (.str "told") j4 q9, .Name "found" r3] t3 q3)) p1'] [] p2' :: rest) "deed" q (TTh G) := by
  intro f c' s H Q tl act hc hTT
  obtain ⟨CT, hCT⟩ := hTm
  have O : Ok [] G Ngh sg 0 (cxOf C8.CX0 X.prog X.w X.K X.mg X.base Ngh "_law_heard" sg g cdv X.A X.stack s H C8.E0).nox := ⟨eP, ew, eK, em, eb, rfl, S.nd, rfl, S.kind, rfl, hr.deeper _, fun _ _ _ => rfl, PassesOwn.never⟩
  generalize hY : (cxOf C8.CX0 X.prog X.w X.K X.mg X.base Ngh "_law_heard" sg g cdv X.A X.stack s H C8.E0).nox = Y at O
  refine ⟨wpSs Y _, pss_w, ?_⟩
  have j0 : JS (tnF f) Y (.Assign [.Tuple [.Name "refused" p1, .Name "found" p2] t1 p3] (.Tuple [.Constant .none j1 p4, .Constant .none j2 p5] t2 p6) p7) (sAsg (dC (.tuple [.none, .none])) (gTupl 2 (gsCons (gNam 1) (gsCons (gNam 2) gsNil)))) :=
    js_asgC O (jd_lit 40 rfl) (jg_tup O (jgs_cons (jg_name O 1 rfl (.inl hv1)) (jgs_cons (jg_name O 2 rfl (.inl hv2)) jgs_nil))) hw (hs0 _)
  have rep0 : Rep Y.K (tnF f) H [] H (L2.start Ngh [.ref f]) [.town, .un, .un, .un, .un, .un, .un] := by
    refine ⟨rfl, fun _ _ e _ => e, trivial, fun i s h => ?_, fun i j s t a h1 h2 h3 => ?_, (fun p hp => by cases hp), trivial⟩
    · match i, h with
      | 0, h => cases h; rfl
      | 1, h => cases h; trivial
      | 2, h => cases h; trivial
      | 3, h => cases h; trivial
      | 4, h => cases h; trivial
      | 5, h => cases h; trivial
      | 6, h => cases h; trivial
    · match i, h1 with
      | 0, h => cases h; cases h3
      | 1, h => cases h; cases h3
      | 2, h => cases h; cases h3
      | 3, h => cases h; cases h3
      | 4, h => cases h; cases h3
      | 5, h => cases h; cases h3
      | 6, h => cases h; cases h3
  refine wpSs_of (pss_cons ps_w pss_w) (j0 [.town, .un, .un, .un, .un, .un, .un] { nx := fun ρ => ρ = [.town, .dat .none, .dat .none, .un, .un, .un, .un], rt := fun _ => False } ⟨rfl, rfl⟩ H [] _ H rep0 _ ⟨fun ρ σ H' c r => ?_, fun _ _ _ c => c.elim, fun _ _ _ c => c.elim, fun _ _ _ c => c.elim⟩)
  subst c
  have s0 : σ[0]? = some (some (.ref f)) := r.sl 0 _ rfl
  have l7 : σ.length = 7 := r.len
  have sm : Same H H' := fun a o e => r.ext a o e id
  have s1 : σ[1]? = some (some .non) := by
    obtain ⟨v, e1, e2⟩ := r.sl 1 _ rfl
    cases e2; exact e1
  have tt := hTT H' sm
  clear rep0 j0 r
  have tail : ∀ (σ : St) (H' : Hp) (a : Addr), H' a = none → σ.length = 7 → ∀ (C : Addr) (bs : Str → Bool) (w : Str), HearOk G C bs w → (∀ p H'', Same H' H'' → H' p = none → H'' p = some (.tup [.str w]) → Q (.ref p) H'') →
      wpSs Y (.If (.Compare (.Name "refused" q6) [.Is] [.Constant .none j3 q7] q8) [.Return (some (.Tuple [.Constant (.str "told") j4 q9, .Name "found" r3] t3 q3)) p1'] [] p2' :: rest) { nx := fun _ H' => Q .non H', rt := Q } (((σ.set 3 (some (.ref a))).set 1 (some (.ref a))).set 3 none) (upd H' a (ExH (.ref C) a)) := by
    intro σ H' a ha hl C bs w hok hq
    have e1 : (((σ.set 3 (some (.ref a))).set 1 (some (.ref a))).set 3 none)[1]? = some (some (.ref a)) := by
      rw [List.getElem?_set_ne (by decide), List.getElem?_set_self (by rw [List.length_set, hl]; decide)]
    refine wpSs_of (pss_cons (ps_if (pt_cmpR op_isN (pe_var (i := 1) (by rw [O.eN]; rfl) (by rw [O.es]; exact .inl hv1) (by decide) (by decide)) pe_non (nomark _)) pss_w pss_nil) pss_w) ?_
    refine ⟨_, e1, rfl, _, rfl, iteF (hrest Y _ a C bs w _ _ O hok ⟨e1, upd_same, by rw [O.eK]; exact hok.ec, fun _ _ e => e, by simp [hl]⟩ fun p H'' sm2 hp hp2 => ?_)⟩
    have np : p ≠ a := fun z => by rw [z, upd_same] at hp; cases hp
    refine hq p H'' (fun b o e => sm2 b o (by rw [upd_ne (ne_of_none e ha)]; exact e)) (by rw [upd_ne np] at hp; exact hp) hp2
  subst hY
  refine wpSs_of (pss_cons (ps_try_keep (X := (cxOf C8.CX0 X.prog X.w X.K X.mg X.base Ngh "_law_heard" sg g cdv X.A X.stack s H C8.E0).nox) (i := 3) (j := 1) (c := .ref CT)
    (tb := fun W D σ H => ∃ Ech : XK, (∀ cls d σ' H', Ech cls d H' → W cls d σ' H') ∧ σ[0]? = some (some (.ref f)) ∧ H c' = some (LamX.CodeO c' q) ∧ tl Ech H fun v H' => D.nx (σ.set 2 (some v)) H')
    rfl rfl rfl O.nd rfl rfl (by decide) hv3 hv1 ⟨hT, by decide, .inl (by show X.mg _ = _; rw [em]; exact hCT)⟩ hs1 (by decide) (by decide) fun W pn xe tk _ => ?_) pss_w) ?_
  · refine ⟨fun pins t σ H D I ⟨Ech, hW, h1, h2, h3⟩ => ?_⟩
    have hp := act W pn xe Ech p9 q0 tk hW
    exact (pss_one (ps_set (i := 2) (pos := q1) O.nd rfl (.inl hv2) hp (hs2 _) (.inr hv2))).run pins t σ H D I ⟨h1, h2, h3⟩
  · refine ⟨HearE G Q, fun cls d σ' H2 ⟨C, bs, w, hd, hcl, hok, hq⟩ => ?_, s0, sm _ _ hc, tt _ _ (fun _ _ _ h => h) fun v H2 hq => ?_⟩
    · subst hd hcl
      obtain ⟨CT', g1, g2⟩ := hok.te
      rw [hCT] at g1
      cases g1
      refine ⟨rfl, by rw [O.eK]; exact g2, fun a ha hl => tail _ _ a ha hl C bs w hok hq⟩
    · refine wpSs_of (pss_cons (ps_if (pt_cmpR op_isN (pe_var (i := 1) rfl (.inl hv1) (by decide) (by decide)) pe_non (nomark _)) (pss_one (ps_ret (pe_tup (pa_cons pe_str (pa_cons (pe_var (i := 2) rfl (.inl hv2) (by decide) (by decide)) pa_nil))))) pss_nil) pss_w) ?_
      refine ⟨.non, by rw [List.getElem?_set_ne (by decide)]; exact s1, rfl, _, rfl, iteT ⟨v, List.getElem?_set_self (by rw [l7]; decide), by show 2 ≤ sizeLine; decide, hq⟩⟩
end
end Pu
namespace Pu
open PySem PySem.Spec PyProof.Rows L2
def excCB (K : PySem.W.Frag) (C : Addr) : Bool := He.eqO (PySem.W.findIn K (.ref C) "__getattribute__") (some (some (.builtin "BaseException.__getattribute__"))) && (He.eqO (PySem.W.findIn K (.ref C) "__getattr__") (some none) && (decide (PySem.W.subIn K (.ref C) (.type "BaseException") = some true) && (PySem.W.hasDictIn K C && (He.eqO (PySem.W.findIn K (.ref C) "__class__") (some (some (.builtin "object.__class__"))) &&
  (He.eqO (PySem.W.specialIn K (.builtin "object.__class__") "__get__") (some (some (.builtin "getset_descriptor.__get__"))) && (decide (PySem.W.takesIn K (.builtin "object.__class__") = some true) && decide (PySem.W.mroIn K C (.type "object") = some true)))))))
theorem excCB_ok {K : PySem.W.Frag} {C : Addr} (h : excCB K C = true) : ExcC K C := by
  obtain ⟨h1, h⟩ := He.ba h
  obtain ⟨h2, h⟩ := He.ba h
  obtain ⟨h3, h⟩ := He.ba h
  obtain ⟨h4, h⟩ := He.ba h
  obtain ⟨h5, h⟩ := He.ba h
  obtain ⟨h6, h⟩ := He.ba h
  obtain ⟨h7, h8⟩ := He.ba h
  exact ⟨He.eqO_ok h1, He.eqO_ok h2, of_decide_eq_true h3, h4, He.eqO_ok h5, He.eqO_ok h6, of_decide_eq_true h7, of_decide_eq_true h8⟩
/-- the class p.1 is heard as p.2 -/
def hearB (K : PySem.W.Frag) (p : Str × Str) : Bool := excCB K (He.ga K p.1) && (decide (PySem.W.exmOne K (.ref (He.ga K p.1)) (.ref (He.ga K "TimeError")) = some true) && (decide (PySem.W.kitOne K (.ref (He.ga K p.1)) (.type "ValueError") = some true) &&
  (keysH.all (fun y => decide (PySem.W.kitOne K (.ref (He.ga K p.1)) (.ref (He.ga K y.1)) = some (y.1 == p.1)) && He.eqO (PySem.W.nsIn K mainGlobals y.1) (some (some (.ref (He.ga K y.1))))) && (decide (yesW (keysH.map fun y => ((.inr y.2 : Key), V.bl (y.1 == p.1))) = [.str p.2]) && (He.Fa.glo "TimeError").ok K))))
theorem hearB_ok {G : Gx} {h : Heap} (X : G.K.In h) (N : h.Ns mainGlobals G.mg) {p : Str × Str} (c : hearB G.K p = true) : HearOk G (He.ga G.K p.1) (fun y => y == p.1) p.2 := by
  obtain ⟨c1, c⟩ := He.ba c
  obtain ⟨c2, c⟩ := He.ba c
  obtain ⟨c3, c⟩ := He.ba c
  obtain ⟨c4, c⟩ := He.ba c
  obtain ⟨c5, c6⟩ := He.ba c
  refine ⟨excCB_ok c1, ⟨_, He.glo_ok X N c6, of_decide_eq_true c2⟩, of_decide_eq_true c3, fun y hy => ?_, of_decide_eq_true c5⟩
  obtain ⟨d1, d2⟩ := He.ba (List.all_eq_true.mp c4 y hy)
  exact ⟨_, PySem.W.mg_of X N (He.eqO_ok d2), of_decide_eq_true d1⟩
def hnOf (l : List (Str × Str)) : Hn := fun x => l.lookup x
theorem hearAll_of {G : Gx} {h : Heap} (X : G.K.In h) (N : h.Ns mainGlobals G.mg) {l : List (Str × Str)} (c : l.all (hearB G.K) = true) (gl : l.all (fun p => (He.Fa.glo p.1).ok G.K) = true) : HearAll G (hnOf l) := fun x C w hE hw => by
  have hm : (x, w) ∈ l := PySem.mem_of_lookup hw
  have e : G.mg x = some (.ref (He.ga G.K x)) := He.glo_ok X N (List.all_eq_true.mp gl _ hm)
  rw [hE.gl] at e
  cases e
  exact ⟨_, hearB_ok X N (List.all_eq_true.mp c _ hm)⟩
theorem exC_of {G : Gx} {h : Heap} (X : G.K.In h) (N : h.Ns mainGlobals G.mg) {x : Str} (c1 : (He.Fa.glo x).ok G.K = true) (c2 : (He.Fa.exc x).ok G.K = true) : ExC G x (He.ga G.K x) := by
  obtain ⟨d1, d2, d3, d4⟩ := He.exc_ok c2
  exact ⟨He.glo_ok X N c1, d1, d2, d3, d4⟩
theorem hearD_of {G : Gx} {pg : Arguments} {bg : List Stmt} {sg : Scope} {g : Addr} {fd : FuncData} (F : FunD G.K "_law_heard" "_law_heard" pg bg sg [] [] g fd) (gl : G.mg "_law_heard" = some (.ref g))
    (hb : ∀ (kV doc pm : Value) (an : Option Addr) (cdv ct : Value) (us : List Value), us.length = 1 → bindArgs (PySem.W.fnOf "_law_heard" "_law_heard" pg bg sg .none kV doc pm an cdv ct) ⟨us, []⟩ = pure ((["deed"] : List Str).zip us)) (S : FnScope Ngh ["deed"] sg) (hv : Vis sg "deed")
    (h : ∀ (X : Cx) (cdv : Value) (q : Str), X.prog = G.P → X.w = G.w → X.K = G.K → X.mg = G.mg → X.base = G.base → Room 1 X.A → LamX.GivesTo X Ngh "_law_heard" sg g cdv bg "deed" q (TTh G)) : HearD G g := by
  have B := F.bindsN (ps := ["deed"]) hb
  obtain ⟨oc, od, dV, kV, doc, pm, an, cdv, ct, osl, rfl, lk, hcd, hD, hK⟩ := F.ex
  exact ⟨⟨oc, dV, kV, doc, pm, cdv, ct, od, an, osl, pg, bg, sg, gl, F.kp, lk, hcd, B, S, hv, fun X q => h X cdv q⟩⟩
/-- a def's code object -/
theorem code_of {K : PySem.W.Frag} {x qual : Str} {params : Arguments} {body : List Stmt} {scope : Scope} {dvs : List V} {kws : List (Str × V)} {fd : FuncData} {p : Str × Option Str} (F : FunD K x qual params body scope dvs kws (He.fAd K p) fd) : fd.code = .ref (He.codeOf K p) := by
  obtain ⟨oc, od, dV, kV, doc, pm, an, cdv, ct, osl, rfl, lk, hcd, _, _⟩ := F.ex
  obtain ⟨c, rfl⟩ := He.codeIn_ref hcd
  rw [He.codeOf_eq (c := c) lk rfl]
/-- the tables of the defs tf, each with the name of its lambdas -/
def tabsOf (K : PySem.W.Frag) (tf : List (Str × Scope)) : List (Addr × Str) := tf.map fun p => ((He.cT K (p.1, none)).2, qOf p.1 p.2 ++ "<lambda>")
theorem tabs_u {K : PySem.W.Frag} {tf : List (Str × Scope)} (h : decide (((tabsOf K tf).map Prod.fst).Nodup) = true) {P : Addr} {q : Str} (hm : (P, q) ∈ tabsOf K tf) : ∀ p ∈ tabsOf K tf, p.1 = P → p.2 = q := fun p hp e => by
  have nd : ((tabsOf K tf).map Prod.fst).Nodup := of_decide_eq_true h
  clear h
  generalize tabsOf K tf = l at *
  induction l with
  | nil => cases hp
  | cons a r ih =>
    simp only [List.map_cons, List.nodup_cons, List.mem_map, not_exists, not_and] at nd
    rcases List.mem_cons.mp hm with h1 | h1
    · rcases List.mem_cons.mp hp with h2 | h2
      · rw [h2, ← h1]
      · exact absurd (by rw [e, ← h1]) (nd.1 p h2)
    · rcases List.mem_cons.mp hp with h2 | h2
      · exact absurd (show (P, q).1 = a.1 by rw [← h2]; exact e.symm) (nd.1 _ h1)
      · exact ih h1 h2 nd.2
end Pu
namespace Pu
open PySem PySem.Spec PyProof.Rows L2
section
variable {t : Xw → US} {E : Ed} {ρ : En} {ta tb : UA} {R : Rs → Prop} {C : D → Prop} {S : SfX} {ξ : Xw} {x : Str} {n : Nat} {g : List Ar → List Ar → List Ar} {h : Hn} {tv : Xw → UV} {d : D} {ds : List D}
theorem c_sfxOf {N : List Str} {as : List Ar} : sfxOf N n t as R ξ = (as.length = n ∧ t ξ { nx := fun _ => R (.dat .none), rt := fun r => r.lf = true ∧ R r } (en0 N as)) := propext Iff.rfl
theorem c_sRaise : sRaise ξ x E ρ = ξ x := propext Iff.rfl
theorem c_eCallX : eCallX S ξ ta ρ R = ta ρ fun as => S as R ξ := propext Iff.rfl
theorem c_eCallXK : eCallXK S ξ g ta tb ρ R = ta ρ fun as => tb ρ fun bs => S (g as bs) R ξ := propext Iff.rfl
theorem c_eHeard : eHeard h tv ρ C = tv (fun x => ∃ w, h x = some w ∧ C (.tuple [.str w])) (ρ.map frzS) fun d => lf d = true ∧ C (.tuple [.str "told", d]) := propext Iff.rfl
theorem q_frz_d : frzS (.dat d) = .dat d := rfl
theorem q_frz_l : frzS (.lst ds) = .dat (.list ds) := rfl
theorem q_frz_u : frzS .un = .un := rfl
theorem q_frz_t : frzS .town = .town := rfl
end
end Pu
/-! ### a loop over a dict of one's own that is read inside -/
namespace Pu
open PySem PySem.Spec PyProof.Rows L2 PySem.W
def unL : Sl → Sl
  | .ldc _ => .un
  | .tv _ => .un
  | .tl _ => .un
  | s => s
theorem unL_own {s : Sl} : (unL s).isOwn = s.isOwn := by cases s <;> rfl
section
variable {τ : Tn} {K : PySem.W.Frag}
theorem own_unL {σ : St} {ρ : En} {a : Addr} : own τ σ (ρ.map unL) a ↔ own τ σ ρ a := by
  constructor
  · rintro (z | ⟨j, u, h1, h2, h3⟩)
    · exact .inl z
    · rw [List.getElem?_map] at h1
      obtain ⟨w, hw, rfl⟩ := Option.map_eq_some_iff.mp h1
      exact .inr ⟨j, w, hw, by rw [← unL_own]; exact h2, h3⟩
  · rintro (z | ⟨j, u, h1, h2, h3⟩)
    · exact .inl z
    · exact .inr ⟨j, unL u, by rw [List.getElem?_map, h1]; rfl, by rw [unL_own]; exact h2, h3⟩
theorem kvOk_off {α : Type} {R : Hp} {d : Addr} {od : Obj} {kvs : List (Key × V)} (hd : R d = some (.frz od (.dK kvs))) : ∀ {ws : List (α × V)} {kds : List (α × D)}, KvOk K R ws kds → KvOk K (unT R d) ws kds
  | _, _, .nil => .nil
  | _, _, .cons h t => .cons ⟨h.1, dp_off hd _ _ h.2⟩ (kvOk_off hd t)
theorem xtOk_off {R : Hp} {d : Addr} {od : Obj} {kvs : List (Key × V)} (hd : R d = some (.frz od (.dK kvs))) : ∀ {ws : List (List OI × Addr × V)} {kds : List (List OI × D)}, XtOk K R ws kds → XtOk K (unT R d) ws kds
  | _, _, .nil => .nil
  | _, _, .cons h t => .cons ⟨h.1, h.2.1.imp (fun z => by
      rcases z with z | ⟨o, z⟩
      · exact .inl ((unT_ne fun e => by rw [e, hd] at z; cases z).trans z)
      · exact .inr ⟨o, (unT_ne fun e => by rw [e, hd] at z; cases z).trans z⟩) id, dp_off hd _ _ h.2.2⟩ (xtOk_off hd t)
theorem thIs_off {R : Hp} {d a : Addr} {o : HO} {od : Obj} {kvs : List (Key × V)} (hd : R d = some (.frz od (.dK kvs))) : ∀ {x : Th}, ThIs K R a o x → ThIs K (unT R d) a o x
  | .dl _, ⟨ws, h1, h2⟩ => ⟨ws, h1, kvOk_off hd h2⟩
  | .dt _, ⟨ws, h1, h2⟩ => ⟨ws, h1, xtOk_off hd h2⟩
theorem res_unT_le {H : Hp} {ow : Addr → Prop} {p : Addr} {o : HO} : Same (unT (res H ow) p) (res (upd H p o) ow) := fun b u e => by
  have hb : b ≠ p := fun z => by rw [z, unT_same] at e; cases e
  rw [unT_ne hb] at e
  obtain ⟨n, e, k⟩ := res_some.mp e
  exact res_put n (by rw [upd_ne hb]; exact e) k
/-- the dict at p, own of slot i, is walked from here on -/
theorem Rep.lockL {H0 H : Hp} {γ : List (V × D)} {σ : St} {ρ : En} {i : Nat} {p : Addr} {od : Obj} {kds : List (Key × D)} {kvs : List (Key × V)} (r : Rep K τ H0 γ H σ ρ) (hi : ρ[i]? = some (.dic kds)) (hv : σ[i]? = some (some (.ref p))) (hn : ¬ τ.ad p) (h0 : H0 p = none) (hp : H p = some (.dK kvs)) (hk : KvOk K (res H (own τ σ ρ)) kvs kds) :
    Rep K (τ.at_ fun _ => True) (upd H0 p (.frz od (.dK kvs))) γ (upd H p (.frz od (.dK kvs))) σ (ρ.set i (.ldc kds)) := by
  have r1 := r.lock (od := od) hi hv hn h0 hp
  have so : ∀ a, own τ σ (ρ.set i (.ldc kds)) a ↔ own τ σ (ρ.set i .un) a := fun a => by
    have go : ∀ (s t : Sl), s.isOwn = false → own τ σ (ρ.set i s) a → own τ σ (ρ.set i t) a := fun s t hs h => by
      rcases h with z | ⟨j, u, h1, h2, h3⟩
      · exact .inl z
      · have e : i ≠ j := fun e => by subst e; rw [(set_here h1).1] at h2; rw [hs] at h2; cases h2
        exact .inr ⟨j, u, by rw [List.getElem?_set_ne e]; exact set_other e h1, h2, h3⟩
    exact ⟨go _ _ rfl, go _ _ rfl⟩
  have eo : own (τ.at_ fun _ => True) σ (ρ.set i (.ldc kds)) = own τ σ (ρ.set i .un) := funext fun a => propext (so a)
  have no := not_own_un r hi rfl hv hn
  have op : own τ σ ρ p := .inr ⟨i, _, hi, rfl, hv⟩
  have le : Same (res H (own τ σ ρ)) (res (upd H p (.frz od (.dK kvs))) (own τ σ (ρ.set i .un))) := res_mono fun a u n e => by
    have hne : a ≠ p := fun z => n (by rw [z]; exact op)
    exact ⟨fun z => n (own_un z), by rw [upd_ne hne]; exact e⟩
  refine ⟨by simp [r.len], fun a u e n => ?_, r1.inv, fun j u hu => ?_, fun j l u w b h1 h2 h3 h4 h5 h6 => ?_, fun q hq => by rw [eo]; exact r1.gh q hq, trivial⟩
  · by_cases ea : a = p
    · subst ea
      rw [upd_same] at e ⊢
      exact e
    · rw [upd_ne ea] at e ⊢
      exact r.ext a u e n
  · rw [eo]
    by_cases e : i = j
    · subst e
      obtain ⟨rfl, _⟩ := set_here hu
      exact ⟨p, od, kvs, hv, res_put no upd_same, KvOk.same le hk⟩
    · have q := r1.sl j u (by rw [List.getElem?_set_ne e]; exact set_other e hu)
      cases u with
      | un => trivial
      | dat d => exact q
      | lst ds =>
        obtain ⟨a, vs, g1, g2, g3, g4, g5⟩ := q
        have hne : a ≠ p := fun z => by rw [z, upd_same] at g4; cases g4
        exact ⟨a, vs, g1, by rw [upd_ne hne]; exact g2, g3, g4, g5⟩
      | dic ds =>
        obtain ⟨a, vs, g1, g2, g3, g4, g5⟩ := q
        have hne : a ≠ p := fun z => by rw [z, upd_same] at g4; cases g4
        exact ⟨a, vs, g1, by rw [upd_ne hne]; exact g2, g3, g4, g5⟩
      | town => exact q
      | ldc ds => exact q
      | dtc ds =>
        obtain ⟨a, vs, g1, g2, g3, g4, g5⟩ := q
        have hne : a ≠ p := fun z => by rw [z, upd_same] at g4; cases g4
        exact ⟨a, vs, g1, by rw [upd_ne hne]; exact g2, g3, g4, g5⟩
      | th x =>
        obtain ⟨a, o, g1, g2, g3, g4, g5⟩ := q
        have hne : a ≠ p := fun z => by
          obtain ⟨φ, rfl⟩ := g5.ext
          rw [z, upd_same] at g4; cases g4
        exact ⟨a, o, g1, by rw [upd_ne hne]; exact g2, g3, g4, g5⟩
      | tv x => exact q
      | tl x => exact q
      | dls m =>
        obtain ⟨a, vs, g1, g2, g3, g4, g5, g6⟩ := q
        have hne : a ≠ p := fun z => by rw [z, upd_same] at g4; cases g4
        exact ⟨a, vs, g1, by rw [upd_ne hne]; exact g2, g3, g4, g5.re (fun L ws h3 h4 h5 => ⟨by rw [upd_ne fun z => by rw [z, upd_same] at h5; cases h5]; exact h3, h4, h5⟩) (fun _ _ h => h), g6⟩
  · have n1 : i ≠ j := fun e => by subst e; rw [(set_here h1).1] at h3; cases h3
    have n2 : i ≠ l := fun e => by subst e; rw [(set_here h2).1] at h4; cases h4
    exact r.sep j l u w b (set_other n1 h1) (set_other n2 h2) h3 h4 h5 h6
/-- .. and no longer -/
theorem Rep.unlockL {H0 H : Hp} {γ : List (V × D)} {σ : St} {ρ : En} {p : Addr} {od : Obj} {kvs : List (Key × V)} {z : Hp → Prop} (hn : ¬ τ.ad p) (h0 : H0 p = none) (hz : τ.z H0) (r : Rep K (τ.at_ z) (upd H0 p (.frz od (.dK kvs))) γ H σ ρ) : H p = some (.frz od (.dK kvs)) ∧ Rep K τ H0 γ (upd H p (.dK kvs)) σ (ρ.map unL) := by
  have hp : H p = some (.frz od (.dK kvs)) := r.ext p _ upd_same hn
  have np : ¬ own τ σ ρ p := fun q => by
    obtain ⟨o, e, m⟩ := r.ownMut q
    rw [hp] at e; cases e
    exact m
  have eo : own τ σ (ρ.map unL) = own τ σ ρ := funext fun a => propext own_unL
  have hR : res H (own τ σ ρ) p = some (.frz od (.dK kvs)) := res_put np hp
  have le : Same (unT (res H (own τ σ ρ)) p) (res (upd H p (.dK kvs)) (own τ σ ρ)) := res_unT_le
  have nz : ∀ {a : Addr} {o : HO}, H a = some o → (∀ x y, o ≠ .frz x y) → a ≠ p := fun h q e => by
    rw [e, hp] at h
    exact q _ _ (Option.some.inj h).symm
  have f0 : ∀ {a : Addr}, (upd H0 p (.frz od (.dK kvs))) a = none → H0 a = none := fun {a} h => by
    by_cases e : a = p
    · rw [e, upd_same] at h; cases h
    · rw [upd_ne e] at h; exact h
  refine ⟨hp, by rw [List.length_map]; exact r.len, fun a u e n => ?_, ?_, fun j u hu => ?_, fun j l u w b h1 h2 h3 h4 h5 h6 => ?_, fun q hq => ?_, hz⟩
  · have hne := ne_of_none e h0
    rw [upd_ne hne]
    exact r.ext a u (by rw [upd_ne hne]; exact e) n
  · refine τ.dep (fun a u ea ha => ?_) r.inv
    rw [upd_ne fun q => ?_]
    · exact ea
    · rcases ha with ha | ha
      · exact hn (by rw [← q]; exact ha)
      · rw [q, hp] at ea
        cases ea
        exact ha trivial
  · rw [List.getElem?_map] at hu
    obtain ⟨w, hw, rfl⟩ := Option.map_eq_some_iff.mp hu
    have q := r.sl j w hw
    rw [eo]
    cases w with
    | un => trivial
    | dat d =>
      obtain ⟨v, e1, e2⟩ := q
      exact ⟨v, e1, dp_same le _ _ (dp_off hR _ _ e2)⟩
    | lst ds =>
      obtain ⟨a, vs, g1, g2, g3, g4, g5⟩ := q
      exact ⟨a, vs, g1, f0 g2, g3, by rw [upd_ne (nz g4 fun _ _ q => by cases q)]; exact g4, dpAll_same le _ _ (dpAll_off hR _ _ g5)⟩
    | dic ds =>
      obtain ⟨a, vs, g1, g2, g3, g4, g5⟩ := q
      exact ⟨a, vs, g1, f0 g2, g3, by rw [upd_ne (nz g4 fun _ _ q => by cases q)]; exact g4, KvOk.same le (kvOk_off hR g5)⟩
    | town => exact q
    | ldc ds => trivial
    | dtc ds =>
      obtain ⟨a, vs, g1, g2, g3, g4, g5⟩ := q
      exact ⟨a, vs, g1, f0 g2, g3, by rw [upd_ne (nz g4 fun _ _ q => by cases q)]; exact g4, KvOk.same le (kvOk_off hR g5)⟩
    | th x =>
      obtain ⟨a, o, g1, g2, g3, g4, g5⟩ := q
      exact ⟨a, o, g1, f0 g2, g3, by rw [upd_ne (nz g4 fun _ _ q => by obtain ⟨φ, rfl⟩ := g5.ext; cases q)]; exact g4, (thIs_off hR g5).same le⟩
    | tv x => trivial
    | tl x => trivial
    | dls m =>
      obtain ⟨a, vs, g1, g2, g3, g4, g5, g6⟩ := q
      exact ⟨a, vs, g1, f0 g2, g3, by rw [upd_ne (nz g4 fun _ _ q => by cases q)]; exact g4, g5.re (fun L ws h3 h4 h5 => ⟨f0 h3, h4, by rw [upd_ne (nz h5 fun _ _ q => by cases q)]; exact h5⟩) (fun _ _ h => dpAll_same le _ _ (dpAll_off hR _ _ h)), g6⟩
  · rw [List.getElem?_map] at h1 h2
    obtain ⟨u', hu', rfl⟩ := Option.map_eq_some_iff.mp h1
    obtain ⟨w', hw', rfl⟩ := Option.map_eq_some_iff.mp h2
    rw [unL_own] at h3 h4
    exact r.sep j l u' w' b hu' hw' h3 h4 h5 h6
  · rw [eo]
    exact dp_same le _ _ (dp_off hR _ _ (r.gh q hq))
/-- a result leaves the def while a dict is walked -/
theorem RtV.unlockL {H0 H : Hp} {p : Addr} {od : Obj} {kvs : List (Key × V)} {v : V} {r : Rs} (hn : ¬ τ.ad p) (hp : H p = some (.frz od (.dK kvs))) (h : RtV K τ (upd H0 p (.frz od (.dK kvs))) H v r) : RtV K τ H0 (upd H p (.dK kvs)) v r := by
  have nz : ∀ {a : Addr}, (upd H0 p (.frz od (.dK kvs))) a = none → a ≠ p ∧ H0 a = none := fun {a} h => by
    by_cases e : a = p
    · rw [e, upd_same] at h; cases h
    · rw [upd_ne e] at h; exact ⟨e, h⟩
  cases r with
  | dat d =>
    have hR : res H τ.ad p = some (.frz od (.dK kvs)) := res_put hn hp
    exact dp_same res_unT_le _ _ (dp_off hR _ _ h)
  | lst ds =>
    obtain ⟨a, vs, rfl, g1, g2, g3⟩ := h
    obtain ⟨ne, g1⟩ := nz g1
    have hR : res H (fun b => τ.ad b ∨ b = a) p = some (.frz od (.dK kvs)) := res_put (fun z => z.elim hn fun z => ne z.symm) hp
    exact ⟨a, vs, rfl, g1, by rw [upd_ne ne]; exact g2, dpAll_same res_unT_le _ _ (dpAll_off hR _ _ g3)⟩
  | dic ds =>
    obtain ⟨a, vs, rfl, g1, g2, g3⟩ := h
    obtain ⟨ne, g1⟩ := nz g1
    have hR : res H (fun b => τ.ad b ∨ b = a) p = some (.frz od (.dK kvs)) := res_put (fun z => z.elim hn fun z => ne z.symm) hp
    exact ⟨a, vs, rfl, g1, by rw [upd_ne ne]; exact g2, KvOk.same res_unT_le (kvOk_off hR g3)⟩
  | th x =>
    obtain ⟨a, o, rfl, g1, g2, g3⟩ := h
    obtain ⟨ne, g1⟩ := nz g1
    have hR : res H (fun b => τ.ad b ∨ b = a) p = some (.frz od (.dK kvs)) := res_put (fun z => z.elim hn fun z => ne z.symm) hp
    exact ⟨a, o, rfl, g1, by rw [upd_ne ne]; exact g2, (thIs_off hR g3).same res_unT_le⟩
  | dll m =>
    obtain ⟨a, vs, rfl, g1, g2, g3, g4⟩ := h
    obtain ⟨ne, g1⟩ := nz g1
    have hR : res H (fun b => τ.ad b ∨ b = a) p = some (.frz od (.dK kvs)) := res_put (fun z => z.elim hn fun z => ne z.symm) hp
    exact ⟨a, vs, rfl, g1, by rw [upd_ne ne]; exact g2, KvOk.same res_unT_le (kvOk_off hR g3), fun q hq => let ⟨L, e1, ne2, e2⟩ := g4 q hq; ⟨L, e1, ne2, (nz e2).2⟩⟩
end
section
variable {τ : Tn} {G : Gx} {cp : List Str} {N : List Str} {sc : Scope} {k : Nat} {X : Cx} {e tg : Expr} {body : List Stmt} {g : UG} {t : US} {tw : UV} {x : Str} {p2 pos : Pos}
def sForK (i : Nat) (g : UG) (tb : US) : US := fun E ρ => match ρ[i]? with
  | some (.dic kds) => kds.length ≤ 1000000 ∧ forC g tb { nx := fun ρ' => E.nx (ρ'.map unL), rt := E.rt } (kds.map fun p => kD p.1) (ρ.set i (.ldc kds))
  | _ => False
theorem js_forK (S : Ok cp G N sc k X) (i : Nat) (hg : ∀ z, JG (τ.at_ z) X tg g) (hb : ∀ z, JSs (τ.at_ z) X body t) (hN : N[i]? = some x := by rfl) (hvis : Vis sc x := by first | exact Or.inl rfl | exact Or.inr (Or.inl rfl) | exact Or.inr (Or.inr rfl)) (hdb : (x == ("__debug__" : Str)) = false := by decide) (hcd : (x == ("__classdict__" : Str)) = false := by decide)
    (hs : ∀ y, foldedSetIterable (.Name x p2) X.env y = pure y := by intro _; rfl) : JS τ X (.For tg (.Name x p2) body [] pos) (sForK i g t) := fun ρ E c H0 γ σ H r Dn d => by
  unfold sForK at c
  split at c
  · rename_i kds hi
    obtain ⟨hkl, c⟩ := c
    obtain ⟨p, kvs, e0, h0, hn, h, h'⟩ := r.sl i _ hi
    have hpv := pe_var (X := X) (i := i) (x := x) (pos := p2) (by rw [S.eN]; exact hN) (by rw [S.es]; exact hvis) hdb hcd
    refine wpS_of (ps_lock (ps_for S.po S.calm (pi_keys hpv) pg_w pss_w hs)) ⟨p, .dK kvs, h, trivial, fun od => ?_⟩
    have r1 := r.lockL (od := od) hi e0 hn h0 h h'
    have hks := kv_keysD h'
    rw [hks] at c
    refine ⟨_, e0, p, od, rfl, .inl ⟨kvs, upd_same, ?_⟩⟩
    generalize hds : (kvs.map fun p => kD p.1) = ds at c
    have hl : kvs.length = ds.length := by rw [← hds, List.length_map]
    refine ⟨fun j m σ' H' => m = ds.length - j ∧ ∃ ρ', Rep X.K (τ.at_ fun _ => True) (upd H0 p (.frz od (.dK kvs))) γ H' σ' ρ' ∧ forC g t { nx := fun ρ' => E.nx (ρ'.map unL), rt := E.rt } (ds.drop j) ρ', ⟨_, rfl, _, r1, c⟩, fun j m σ' H' ⟨hm, ρ', r', c⟩ => ?_⟩
    have hp : H' p = some (.frz od (.dK kvs)) := r'.ext p _ upd_same hn
    by_cases hlt : j < ds.length
    · rw [List.drop_eq_getElem_cons hlt] at c
      refine .inr ⟨⟨hp, by omega⟩, fun σ2 H3 => ∃ ρ2, Rep X.K (τ.at_ fun _ => True) (upd H0 p (.frz od (.dK kvs))) γ H3 σ2 ρ2 ∧ forC g t { nx := fun ρ' => E.nx (ρ'.map unL), rt := E.rt } (ds.drop (j + 1)) ρ2, fun σ2 H3 h => ⟨ds.length - (j + 1), by omega, rfl, h⟩, fun y H4 hy => ?_⟩
      obtain ⟨eH4, kk, vv, hkv, ey⟩ := hy
      subst eH4 ey
      have e9 : ds[j]? = some (kD kk) := by rw [← hds, List.getElem?_map, hkv]; rfl
      rw [List.getElem?_eq_getElem hlt] at e9
      have e9 := Option.some.inj e9
      have hdp : Dp X.K (res H4 (own (τ.at_ fun _ => True) σ' ρ')) (kV kk) ds[j] := by
        rw [e9]
        cases kk
        · exact .int _
        · exact .str _
      refine hg _ _ ρ' _ c _ γ σ' H4 _ r' hdp _ fun ρ2 σ2 c r3 _ => ?_
      exact hb _ ρ2 _ c _ γ σ2 H4 r3 _ ⟨fun ρ3 σ3 H5 c r4 => ⟨ρ3, r4, c⟩, fun ρ3 σ3 H5 c r4 => (by
          obtain ⟨a1, a2⟩ := r4.unlockL hn h0 r.zz
          exact ⟨a1, d.nx _ σ3 _ c a2⟩), fun ρ3 σ3 H5 c r4 => ⟨ρ3, r4, c⟩, fun rs v H5 c ex iv rt => by
          have hp5 := ex p _ upd_same hn
          refine ⟨hp5, d.rt rs v _ c (fun a o ea na => ?_) ?_ (RtV.unlockL hn hp5 (rtV_at.mp rt))⟩
          · have hne := ne_of_none ea h0
            rw [upd_ne hne]
            exact ex a o (by rw [upd_ne hne]; exact ea) na
          · refine τ.dep (fun a u ea ha => ?_) iv
            rw [upd_ne fun q => ?_]
            · exact ea
            · rcases ha with ha | ha
              · exact hn (by rw [← q]; exact ha)
              · rw [q, hp5] at ea
                cases ea
                exact ha trivial⟩
    · rw [List.drop_of_length_le (by omega)] at c
      obtain ⟨a1, a2⟩ := r'.unlockL hn h0 r.zz
      exact .inl ⟨⟨hp, by omega⟩, a1, d.nx _ σ' _ c a2⟩
  · exact c.elim
/-! x[k] meanwhile -/
def dDGetL (i : Nat) (tk : UV) : UV := fun ρ C => match ρ[i]? with
  | some (.ldc kds) => tk ρ fun dk => ∃ k d, keyD dk = some k ∧ getD? kds k = some d ∧ C d
  | _ => False
theorem jd_dgetL (S : Ok cp G N sc k X) (i : Nat) (hk : JD τ X e tw) (hN : N[i]? = some x := by rfl) (hvis : Vis sc x := by first | exact Or.inl rfl | exact Or.inr (Or.inl rfl) | exact Or.inr (Or.inr rfl)) (hd : (x == ("__debug__" : Str)) = false := by decide) (hcd : (x == ("__classdict__" : Str)) = false := by decide)
    (hs : NoSl e := by exact fun _ _ => rfl) : JD τ X (.Subscript (.Name x p2) e pos) (dDGetL i tw) := fun ρ C c H0 γ σ H r Q q => by
  refine wpE_of (pe_dget (by have := S.room.un; omega) (pe_var (i := i) (by rw [S.eN]; exact hN) (by rw [S.es]; exact hvis) hd hcd) pe_w hs) ?_
  unfold dDGetL at c
  split at c
  · rename_i kds hi
    obtain ⟨p, od, kvs, e0, h, h'⟩ := r.sl i _ hi
    refine ⟨_, e0, hk ρ _ c H0 γ σ H r _ fun d2 v2 H2 c e2 b2 => ?_⟩
    obtain ⟨kk, dd, hkk, hg, c⟩ := c
    obtain ⟨nown, h, _⟩ := res_some.mp h
    have hp := e2.kp p _ h fun z => nown (own_ad z)
    have h2 := KvOk.same (res_ext e2 fun _ => own_ad) h'
    obtain ⟨v, hv1, hv2⟩ := (kv_get (k := kk) h2).1 dd hg
    refine ⟨p, v, rfl, ?_, q _ _ _ c e2 hv2⟩
    rw [dp_key b2 hkk, ← hv1]
    exact .inl ⟨kvs, kk, .inr ⟨od, hp⟩, rfl, rfl⟩
  · exact c.elim
def ldSl : Option Sl → (List (Key × D) → Prop) → Prop
  | some (.ldc kds), C => C kds
  | _, _ => False
theorem ldSl_d {kds : List (Key × D)} {C : List (Key × D) → Prop} : ldSl (some (.ldc kds)) C = C kds := rfl
variable {i : Nat} {ρ : En} {C : D → Prop} {E : Ed}
theorem c_dDGetL : dDGetL i tw ρ C = ldSl ρ[i]? fun kds => tw ρ fun dk => ∃ k d, keyD dk = some k ∧ getD? kds k = some d ∧ C d := by
  unfold dDGetL
  cases ρ[i]? with
  | none => rfl
  | some s => cases s <;> rfl
theorem c_sForK : sForK i g t E ρ = kSl ρ[i]? fun kds => kds.length ≤ 1000000 ∧ forC g t { nx := fun ρ' => E.nx (ρ'.map unL), rt := E.rt } (kds.map fun p => kD p.1) (ρ.set i (.ldc kds)) := by
  unfold sForK
  cases ρ[i]? with
  | none => rfl
  | some s => cases s <;> rfl
end
theorem q_unL_d {d : D} : unL (.dat d) = .dat d := rfl
theorem q_unL_l {ds : List D} : unL (.lst ds) = .lst ds := rfl
theorem q_unL_u : unL .un = .un := rfl
theorem q_unL_t : unL .town = .town := rfl
theorem q_unL_k {kds : List (Key × D)} : unL (.ldc kds) = .un := rfl
theorem q_unL_c {kds : List (Key × D)} : unL (.dic kds) = .dic kds := rfl
theorem LamOk.at_ {τ : Tn} {z : Hp → Prop} {X : Cx} {c P : Addr} {q : Str} (L : LamOk τ X c P q) : LamOk (τ.at_ z) X c P q := ⟨L.TB, L.cd, L.hq, L.ad, L.tab, L.keep⟩
end Pu
/-! ### a dict whose values are lists of its own: x.setdefault(k, []).append(v) -/
namespace Pu
open PySem PySem.Spec PyProof.Rows L2 PySem.W
section
variable {X : Cx} {pins : List (Addr × Obj)} {σ : L2.St} {H : Hp} {s : Shared} {a : Addr} {u u' : HO}
theorem inv_re (I : Inv X pins σ H s) (h : H a = some u) (mu : Mut (some u)) (he : ∃ q, s.heap.get? a = some q) (ok : ObjOk X.prog X.w (upd H a u') s.heap a u') : Inv X pins σ (upd H a u') s :=
  d_write (h' := s.heap) (t' := s.toks) I (by rw [h]; exact mu) (Heap.SameBut.refl _ _) he ok
theorem llo_of {P : Program} {w : World} {H H' : Hp} {h : Heap} {vs : List V} (x : ObjOk P w H h a (.lst vs)) : ObjOk P w H' h a (LLo a vs) := by
  obtain ⟨z, its, n, rv, e⟩ := x
  exact ⟨⟨its, n, rv, e⟩, ⟨_, e⟩, fun h1 h2 ⟨its, n, rv, e⟩ k => ⟨its, n, rv, k _ e⟩⟩
theorem lst_of {P : Program} {w : World} {H H' : Hp} {h : Heap} {vs : List V} (x : ObjOk P w H h a (LLo a vs)) (z : vs.length ≤ sizeLine) : ObjOk P w H' h a (.lst vs) := by
  obtain ⟨⟨its, n, rv, e⟩, _⟩ := x
  exact ⟨z, its, n, rv, e⟩
/-- [], as such a list -/
theorem pe_llo0 {pos : Pos} : PE X (.List [] pos) (fun _ H Q => ∀ p, H p = none → Q (.ref p) (upd H p (LLo p []))) := ⟨fun pins s σ H Q I h => by
  refine thn ((pe_lst pa_nil).run pins s σ H (fun v H1 => ∃ p, v = .ref p ∧ H p = none ∧ H1 = upd H p (.lst [])) I ⟨Nat.zero_le _, fun p hp => ⟨p, rfl, hp, rfl⟩⟩) fun v s1 ⟨x, H1, I1, r1, p, ex, hp, eH⟩ => ?_
  subst eH ex
  have hl := I1.hok p _ upd_same
  have hq : ∃ q, s1.heap.get? p = some q := let ⟨_, _, _, _, e⟩ := hl; ⟨_, e⟩
  have I2 := inv_re (u' := LLo p []) I1 upd_same trivial hq (llo_of hl)
  rw [upd_upd] at I2
  exact ⟨_, _, I2, r1, h p hp⟩⟩
variable {o e : Expr} {to te : TE} {apos cpos : Pos}
def tAppL (to te : TE) : TE := fun σ H Q => to σ H fun x H1 => ∃ L, x = .ref L ∧ (∃ vs, H1 L = some (LLo L vs)) ∧ te σ H1 fun y H2 => ∃ vs, H2 L = some (LLo L vs) ∧ vs.length < sizeLine ∧ Q .non (upd H2 L (LLo L (vs ++ [y])))
theorem pe_appL (ho : PE X o to) (he : PE X e te) (m : M1 X o "append" apos e cpos) : PE X (.Call (.Attribute o "append" apos) [e] [] cpos) (tAppL to te) := by
  refine ⟨fun pins s σ H Q I h => ?_⟩
  refine wpAny_Call_method1_late m.base m.line m.trees (thn (ho.run pins s σ H _ I h) fun v s1 ⟨x, H1, I1, r1, L, ex, ⟨ws, hL⟩, q1⟩ => ?_)
  subst ex
  obtain rfl : v = Value.ref L := r1
  obtain ⟨⟨its0, n0, rv0, e0⟩, _⟩ := I1.hok L _ hL
  refine ⟨"list", "list.append", PySem.F.plainAttrs_list, PySem.F.slot_list_append, PySem.F.type_list_append, ⟨_, e0, rfl⟩, fun b z => by cases z; exact ⟨_, e0, rfl⟩, ?_⟩
  refine Calls.callWith_builtin rfl (Calls.evalArgs_plain (Calls.spliced_cons (thn (he.run pins s1 σ H1 _ I1 q1) fun iv s2 ⟨y, H2, I2, ry, ws, h2, hz, q2⟩ => Calls.spliced_nil ?_)))
  obtain ⟨⟨its, n, rv, e1⟩, _⟩ := I2.hok L _ h2
  refine call_meets PySem.F.slot_list_append ⟨_, e1, rfl⟩ PySem.F.entry_list_append (PySem.F.args_list_append_2 _ _) (PySem.list_append L its.toArray n iv (by rw [List.size_toArray, ← rv.length]; omega)) ⟨e1, ?_⟩
  have q := PySem.IsL.update e1 fun x => x.push iv
  have ef : its.toArray.push iv = (its ++ [iv]).toArray := by simp
  rw [ef] at q
  refine ⟨.non, upd H2 L (LLo L (ws ++ [y])), I2.write (x := L) (e := L) (by rw [h2]; exact trivial) (.inl rfl) (fun b' u hb hu => (Heap.get?_update_other s2.heap (Obj.mapSeq fun x => x.push iv) (Ne.symm hb)).trans hu) ⟨_, q⟩ ⟨⟨_, _, rv.append (.cons ry .nil), q⟩, ⟨_, q⟩, fun h1 h2 ⟨its, n, rv, e⟩ k => ⟨its, n, rv, k _ e⟩⟩, rfl, q2⟩
end
def appM (m : List (Key × List D)) (k : Key) (d : D) : List (Key × List D) :=
  if (m.any fun p => decide (p.1 = k)) = true then m.map (fun p => if p.1 = k then (p.1, p.2 ++ [d]) else p) else m ++ [(k, [d])]
def setM (m : List (Key × List D)) (k : Key) : List (Key × List D) :=
  if (m.any fun p => decide (p.1 = k)) = true then m else m ++ [(k, [])]
def isDls : Sl → Bool
  | .dls _ => true
  | _ => false
/-- no other such dict -/
def oneL (ρ : En) (i : Nat) : Prop := ((ρ.set i .un).any isDls) = false
theorem oneL_no {ρ : En} {i j : Nat} {m : List (Key × List D)} (h : oneL ρ i) (hj : ρ[j]? = some (.dls m)) : j = i := Classical.byContradiction fun ne => by
  have : isDls (.dls m) = false := by
    have := List.any_eq_false.mp h (.dls m) (List.mem_of_getElem? (i := j) (by rw [List.getElem?_set_ne (Ne.symm ne)]; exact hj))
    simpa using this
  cases this
section
variable {K : PySem.W.Frag} {τ : Tn} {H0 H R : Hp} {k : Key}
theorem dls_any : ∀ {kvs : List (Key × V)} {m : List (Key × List D)}, DlsOk K τ H0 H R kvs m → (kvs.any fun p => decide (p.1 = k)) = (m.any fun p => decide (p.1 = k))
  | _, _, .nil => rfl
  | _, _, .cons h t => by rw [List.any_cons, List.any_cons, h.1, dls_any t]
theorem dls_len : ∀ {kvs : List (Key × V)} {m : List (Key × List D)}, DlsOk K τ H0 H R kvs m → kvs.length = m.length
  | _, _, .nil => rfl
  | _, _, .cons _ t => by simp [dls_len t]
theorem dls_val : ∀ {kvs : List (Key × V)} {m : List (Key × List D)}, DlsOk K τ H0 H R kvs m → ∀ v, valV kvs k = some v → ∃ L vs, v = .ref L ∧ H0 L = none ∧ ¬ τ.ad L ∧ H L = some (LLo L vs) ∧ (k, v) ∈ kvs
  | _, _, .nil, v, h => by cases h
  | p :: _, q :: _, .cons h t, v, hv => by
    by_cases e : p.1 = k
    · rw [valV_pos e] at hv
      cases hv
      obtain ⟨h1, L, vs, h2, h3, h4, h5, _⟩ := h
      exact ⟨L, vs, h2, h3, h4, h5, by rw [← e]; exact List.mem_cons_self ..⟩
    · rw [valV_neg e] at hv
      obtain ⟨L, vs, g1, g2, g3, g4, g5⟩ := dls_val t v hv
      exact ⟨L, vs, g1, g2, g3, g4, List.mem_cons_of_mem _ g5⟩
theorem nodup_inj {α β : Type} {f : α → β} : ∀ {l : List α}, (l.map f).Nodup → ∀ {a b : α}, a ∈ l → b ∈ l → f a = f b → a = b
  | [], _, _, _, h, _, _ => by cases h
  | x :: l, hn, a, b, ha, hb, e => by
    rw [List.map_cons, List.nodup_cons] at hn
    rcases List.mem_cons.mp ha with ha | ha
    · rcases List.mem_cons.mp hb with hb | hb
      · rw [ha, hb]
      · exact absurd (List.mem_map.mpr ⟨b, hb, by rw [← e, ha]⟩) hn.1
    · rcases List.mem_cons.mp hb with hb | hb
      · exact absurd (List.mem_map.mpr ⟨a, ha, by rw [e, hb]⟩) hn.1
      · exact nodup_inj hn.2 ha hb e
/-- the list at L, of the key k, is changed -/
theorem dls_app {H' R' : Hp} {L : Addr} {ws : List V} {y : V} {d : D} (hL : H L = some (LLo L ws)) (hL' : H' L = some (LLo L (ws ++ [y]))) (hk : ∀ b o, b ≠ L → H b = some o → H' b = some o) (e : Same R R') (hd : Dp K R' y d) :
    ∀ {kvs : List (Key × V)} {m : List (Key × List D)}, DlsOk K τ H0 H R kvs m → (∀ p ∈ kvs, p.1 = k ↔ p.2 = .ref L) → DlsOk K τ H0 H' R' kvs (m.map fun p => if p.1 = k then (p.1, p.2 ++ [d]) else p)
  | _, _, .nil, _ => .nil
  | p :: kvs, q :: m, .cons h t, hm => by
    refine .cons ?_ (dls_app hL hL' hk e hd t fun p hp => hm p (List.mem_cons_of_mem _ hp))
    obtain ⟨h1, L1, vs, h2, h3, h4, h5, h6⟩ := h
    have hp := hm p (List.mem_cons_self ..)
    by_cases q1 : p.1 = k
    · have e2 := hp.mp q1
      rw [h2] at e2
      cases e2
      rw [hL] at h5
      have eLL := llo_inj (Option.some.inj h5)
      subst eLL
      dsimp only
      rw [if_pos (h1 ▸ q1)]
      exact ⟨h1, L, ws ++ [y], h2, h3, h4, hL', dpAll_append (dpAll_same e _ _ h6) (.cons hd .nil)⟩
    · dsimp only
      rw [if_neg (h1 ▸ q1)]
      refine ⟨h1, L1, vs, h2, h3, h4, hk _ _ (fun z => q1 (hp.mpr (by rw [h2, z]))) h5, dpAll_same e _ _ h6⟩
theorem dls_snoc {L : Addr} (h0 : H0 L = none) (hn : ¬ τ.ad L) (hL : H L = some (LLo L [])) {kvs : List (Key × V)} {m : List (Key × List D)} (h : DlsOk K τ H0 H R kvs m) : DlsOk K τ H0 H R (kvs ++ [(k, .ref L)]) (m ++ [(k, [])]) :=
  Paired.snoc h ⟨rfl, L, [], rfl, h0, hn, hL, .nil⟩
theorem dls_no {L : Addr} (hL : H L = none) : ∀ {kvs : List (Key × V)} {m : List (Key × List D)}, DlsOk K τ H0 H R kvs m → V.ref L ∉ kvs.map (·.2)
  | _, _, .nil => fun h => by cases h
  | p :: _, _, .cons h t => fun z => by
    rw [List.map_cons] at z
    rcases List.mem_cons.mp z with z | z
    · obtain ⟨_, L1, vs, h2, _, _, h5, _⟩ := h
      rw [← z] at h2
      cases h2
      rw [hL] at h5
      cases h5
    · exact dls_no hL t z
theorem valV_notin {kvs : List (Key × V)} (h : valV kvs k = none) : k ∉ kvs.map (·.1) := fun z => by
  obtain ⟨p, hp, e⟩ := List.mem_map.mp z
  have := valV_any k kvs
  rw [h] at this
  have h2 : (kvs.any fun kv => decide (kv.1 = k)) = true := List.any_eq_true.mpr ⟨p, hp, decide_eq_true e⟩
  rw [this] at h2
  cases h2
end
section
variable {K : PySem.W.Frag} {τ : Tn} {H0 H : Hp} {γ : List (V × D)} {σ : L2.St} {ρ : En} {i : Nat} {m : List (Key × List D)}
theorem SlOk.mono0 {H' R R' : Hp} {ov : Option (Option V)} (e : Same R R') {s : Sl} (hs : isDls s = false) (k : s.isOwn = true → ∀ a o, ov = some (some (.ref a)) → ¬ τ.ad a → H a = some o → H' a = some o) (h : SlOk K τ H0 H R ov s) : SlOk K τ H0 H' R' ov s := by
  cases s with
  | un => trivial
  | dat d => obtain ⟨v, a, b⟩ := h; exact ⟨v, a, dp_same e d v b⟩
  | lst ds => obtain ⟨a, vs, h1, h2, h3, h4, h5⟩ := h; exact ⟨a, vs, h1, h2, h3, k rfl a _ h1 h3 h4, dpAll_same e ds vs h5⟩
  | dic kds => obtain ⟨a, vs, h1, h2, h3, h4, h5⟩ := h; exact ⟨a, vs, h1, h2, h3, k rfl a _ h1 h3 h4, KvOk.same e h5⟩
  | town => exact h
  | ldc kds => obtain ⟨a, od, kvs, h1, h2, h3⟩ := h; exact ⟨a, od, kvs, h1, e _ _ h2, KvOk.same e h3⟩
  | dtc kds => obtain ⟨a, vs, h1, h2, h3, h4, h5⟩ := h; exact ⟨a, vs, h1, h2, h3, k rfl a _ h1 h3 h4, KvOk.same e h5⟩
  | th x => obtain ⟨a, o, h1, h2, h3, h4, h5⟩ := h; exact ⟨a, o, h1, h2, h3, k rfl a _ h1 h3 h4, h5.same e⟩
  | tv x => obtain ⟨a, h1, h2⟩ := h; exact ⟨a, h1, h2.same e⟩
  | tl x => obtain ⟨a, od, o, h1, h2, h3⟩ := h; exact ⟨a, od, o, h1, e _ _ h2, h3.same e⟩
  | dls m => cases hs
/-- the lists of slot i's dict are changed: s' the slot behind that -/
theorem Rep.changeL {H' : Hp} {s' : Sl} {a : Addr} (r : Rep K τ H0 γ H σ ρ) (hi : ρ[i]? = some (.dls m)) (h1 : oneL ρ i) (hv : σ[i]? = some (some (.ref a))) (hk : ∀ b o, H b = some o → (∀ vs, o ≠ LLo b vs) → H' b = some o) (hk2 : ∀ b vs, H b = some (LLo b vs) → (H0 b = none ∧ ¬ τ.ad b) ∨ H' b = some (LLo b vs))
    (hs' : s'.isOwn = true) (h : ∀ R, Same (res H (own τ σ ρ)) R → (∀ b vs, ¬ own τ σ ρ b → H' b = some (.lst vs) → R b = some (.lst vs)) → SlOk K τ H0 H' R (some (some (.ref a))) s') : Rep K τ H0 γ H' σ (ρ.set i s') := by
  have hil : i < ρ.length := (List.getElem?_eq_some_iff.mp hi).1
  have so : ∀ b, own τ σ (ρ.set i s') b ↔ own τ σ ρ b := fun b => by
    constructor
    · rintro (z | ⟨j, u, g1, g2, g3⟩)
      · exact .inl z
      · by_cases e : i = j
        · subst e; exact .inr ⟨i, _, hi, rfl, g3⟩
        · exact .inr ⟨j, u, set_other e g1, g2, g3⟩
    · rintro (z | ⟨j, u, g1, g2, g3⟩)
      · exact .inl z
      · by_cases e : i = j
        · subst e; exact .inr ⟨i, s', List.getElem?_set_self hil, hs', g3⟩
        · exact .inr ⟨j, u, by rw [List.getElem?_set_ne e]; exact g1, g2, g3⟩
  have le : Same (res H (own τ σ ρ)) (res H' (own τ σ (ρ.set i s'))) := fun b o e => by
    obtain ⟨n, e, k⟩ := res_some.mp e
    exact res_put (fun z => n ((so b).mp z)) (hk b o e fun vs z => llo_nok (by rw [z] at k; exact k)) k
  refine ⟨by simp [r.len], fun b o e n => ?_, ?_, fun j u hu => ?_, fun j l u w b g1 g2 g3 g4 g5 g6 => ?_, fun q hq => dp_same le _ _ (r.gh q hq), r.zz⟩
  · have eb := r.ext b o e n
    by_cases q : ∃ vs, o = LLo b vs
    · obtain ⟨vs, rfl⟩ := q
      rcases hk2 b vs eb with ⟨z, _⟩ | z
      · rw [e] at z; cases z
      · exact z
    · exact hk b o eb fun vs z => q ⟨vs, z⟩
  · refine τ.dep (fun b o e hb => ?_) r.inv
    by_cases q : ∃ vs, o = LLo b vs
    · obtain ⟨vs, rfl⟩ := q
      rcases hk2 b vs e with ⟨_, z⟩ | z
      · rcases hb with hb | hb
        · exact absurd hb z
        · exact absurd llo_lk hb
      · exact z
    · exact hk b o e fun vs z => q ⟨vs, z⟩
  · by_cases e : i = j
    · subst e
      obtain ⟨rfl, _⟩ := set_here hu
      rw [hv]
      exact h _ le fun b vs n e => res_put (fun z => n ((so b).mp z)) e
    · have hu' := set_other e hu
      have nd : isDls u = false := by
        cases u <;> first | rfl | exact absurd (oneL_no h1 hu').symm e
      exact SlOk.mono0 le nd (fun hou b o eb nb q => hk b o q fun vs z => by
        subst z
        exact r.notL hu' hou eb q) (r.sl j u hu')
  · have back : ∀ (j : Nat) (u : Sl), (ρ.set i s')[j]? = some u → u.isOwn = true → ∃ u', ρ[j]? = some u' ∧ u'.isOwn = true := fun j u hu ho => by
      by_cases e : i = j
      · subst e; exact ⟨_, hi, rfl⟩
      · exact ⟨u, set_other e hu, ho⟩
    obtain ⟨u', f1, f2⟩ := back j u g1 g3
    obtain ⟨w', f3, f4⟩ := back l w g2 g4
    exact r.sep j l u' w' b f1 f3 f2 f4 g5 g6
end
section
variable {τ : Tn} {G : Gx} {cp : List Str} {N : List Str} {sc : Scope} {k : Nat} {X : Cx} {e f : Expr} {tk tv : UV} {t : US} {st : Stmt} {x : Str} {p p1 p2 p3 apos cpos bpos dpos lpos pos : Pos}
def dls0 : Option Sl → Option (List (Key × List D))
  | some (.dls m) => some m
  | some (.dic []) => some []
  | _ => none
def sSetApp (i : Nat) (tk tv : UV) : US := fun E ρ => ∃ m, dls0 ρ[i]? = some m ∧ tk ρ fun dk => ∃ k, keyD dk = some k ∧ m.length < 1000000 ∧ (∀ p ∈ m, p.2.length < 1000000) ∧ oneL ρ i ∧ tv (ρ.set i (.dls (setM m k))) fun d => E.nx (ρ.set i (.dls (appM m k d)))
theorem js_setApp (S : Ok cp G N sc k X) (i : Nat) (hk : JD τ X e tk) (hv : JD τ X f tv) (hN : N[i]? = some x := by rfl) (hvis : Vis sc x := by first | exact Or.inl rfl | exact Or.inr (Or.inl rfl) | exact Or.inr (Or.inr rfl)) (hd : (x == ("__debug__" : Str)) = false := by decide) (hcd : (x == ("__classdict__" : Str)) = false := by decide)
    (hm : M2 X (.Name x p2) "setdefault" dpos e (.List [] lpos) bpos := by exact ⟨rfl, rfl, rfl, rfl⟩) (hm1 : M1 X (.Call (.Attribute (.Name x p2) "setdefault" dpos) [e, .List [] lpos] [] bpos) "append" apos f cpos := by exact ⟨rfl, rfl, rfl, rfl⟩)
    (hs : swapsWith (.Call (.Attribute (.Call (.Attribute (.Name x p2) "setdefault" dpos) [e, .List [] lpos] [] bpos) "append" apos) [f] [] cpos) none pos.line X.env = pure false := by rfl) :
    JS τ X (.Expr (.Call (.Attribute (.Call (.Attribute (.Name x p2) "setdefault" dpos) [e, .List [] lpos] [] bpos) "append" apos) [f] [] cpos) pos) (sSetApp i tk tv) := fun ρ E c H0 γ σ H r Dn d => by
  obtain ⟨m, hm0, c⟩ := c
  -- the empty dict is one, too
  have start : ∃ a kvs, σ[i]? = some (some (.ref a)) ∧ H0 a = none ∧ ¬ τ.ad a ∧ H a = some (.dK kvs) ∧ ∃ s0, ρ[i]? = some s0 ∧ s0.isOwn = true ∧ DlsOk X.K τ H0 H (res H (own τ σ ρ)) kvs m ∧ (kvs.map (·.2)).Nodup ∧ (kvs.map (·.1)).Nodup := by
    cases hi : ρ[i]? with
    | none => rw [hi] at hm0; cases hm0
    | some s0 =>
      rw [hi] at hm0
      have q := r.sl i s0 hi
      cases s0 with
      | dls m' =>
        cases hm0
        obtain ⟨a, kvs, e0, h0, hn, h, h1, h2, h3⟩ := q
        exact ⟨a, kvs, e0, h0, hn, h, _, rfl, rfl, h1, h2, h3⟩
      | dic kds =>
        cases kds with
        | nil =>
          cases hm0
          obtain ⟨a, kvs, e0, h0, hn, h, h1⟩ := q
          cases h1
          exact ⟨a, [], e0, h0, hn, h, _, rfl, rfl, .nil, .nil, .nil⟩
        | cons _ _ => cases hm0
      | _ => cases hm0
  obtain ⟨a, kvs, e0, h0, hn, h, s0, hi, hs0, h1, h2, h3⟩ := start
  have hil : i < ρ.length := (List.getElem?_eq_some_iff.mp hi).1
  have hir : (ρ.set i (.dls m))[i]? = some (.dls m) := List.getElem?_set_self hil
  have er : upd H a (.dK kvs) = H := by
    funext b
    by_cases q : b = a
    · rw [q, upd_same, h]
    · rw [upd_ne q]
  have r0 : Rep X.K τ H0 γ H σ (ρ.set i (.dls m)) := by
    have := r.change (o := .dK kvs) (s' := .dls m) hi hs0 rfl e0 hn h0 ⟨a, kvs, rfl, h0, hn, upd_same, by rw [er]; exact h1, h2, h3⟩
    rw [er] at this
    exact this
  refine wpS_of (ps_expr (pe_appL (pe_dsetd (pe_var (i := i) (by rw [S.eN]; exact hN) (by rw [S.es]; exact hvis) hd hcd) pe_w pe_llo0 hm) pe_w hm1) hs) ?_
  refine ⟨_, e0, a, rfl, .inl ⟨_, .inl h⟩, hk ρ _ c H0 γ σ H r _ fun dk y H1 c e1 b1 L0 hL0 => ?_⟩
  obtain ⟨kk, hkk, hml, hll, hone, c⟩ := c
  have ey := dp_key b1 hkk
  subst ey
  have r1 := r0.after e1
  have ha1 := e1.kp a _ h hn
  have eL : Ext τ H1 (upd H1 L0 (LLo L0 [])) := .new hL0
  have r2 := r1.after eL
  obtain ⟨a', kvs', e0', _, _, ha2, d2, n2, n3⟩ := r2.sl i _ hir
  rw [e0] at e0'
  cases e0'
  have ekv : kvs' = kvs := by
    rw [eL.kp a _ ha1 hn] at ha2
    cases ha2
    rfl
  subst ekv
  have hone' : ∀ s', oneL (ρ.set i s') i := fun s' => by
    unfold oneL
    rw [List.set_set]
    exact hone
  have hL0f : H0 L0 = none ∧ ¬ τ.ad L0 := r1.fresh0 hL0
  have hlen : kvs'.length < sizeLine := Nat.lt_of_lt_of_le (by rw [dls_len d2]; exact hml) (by decide)
  -- behind setdefault: the list L with ws, and the dict
  have main : ∀ (L : Addr) (ws : List V) (kvs2 : List (Key × V)) (H3 : Hp), Rep X.K τ H0 γ H3 σ (ρ.set i (.dls (setM m kk))) → (kk, V.ref L) ∈ kvs2 → H3 a = some (.dK kvs2) → H3 L = some (LLo L ws) →
      ∃ L', V.ref L = .ref L' ∧ (∃ vs, H3 L' = some (LLo L' vs)) ∧ wpE X f σ H3 fun y H2 => ∃ vs, H2 L' = some (LLo L' vs) ∧ vs.length < sizeLine ∧ (fun (_ : V) H' => Dn.nx σ H') .non (upd H2 L' (LLo L' (vs ++ [y]))) := fun L ws kvs2 H3 r3 hmem ha3 hL3 => by
    refine ⟨L, rfl, ⟨ws, hL3⟩, hv (ρ.set i (.dls (setM m kk))) _ c H0 γ σ H3 r3 _ fun dv y H4 c e4 b4 => ?_⟩
    have r4 := r3.after e4
    have hi4 : (ρ.set i (.dls (setM m kk)))[i]? = some (.dls (setM m kk)) := List.getElem?_set_self hil
    obtain ⟨a4, kvs4, e04, _, _, ha4, d4, n4, n5⟩ := r4.sl i _ hi4
    rw [e0] at e04
    cases e04
    have ekv : kvs4 = kvs2 := by
      rw [e4.kp a _ ha3 hn] at ha4
      cases ha4
      rfl
    subst ekv
    have hmk : ∀ p ∈ kvs4, p.1 = kk ↔ p.2 = .ref L := fun p hp => ⟨fun q => by rw [nodup_inj n5 hp hmem q], fun q => by rw [nodup_inj n4 hp hmem q]⟩
    obtain ⟨L1, vs1, g1, g2, g3, g4, _⟩ := dls_val d4 (.ref L) (by
      have hh : ∀ l : List (Key × V), (l.map (·.1)).Nodup → (kk, V.ref L) ∈ l → valV l kk = some (.ref L) := fun l => by
        induction l with
        | nil => intro _ h; cases h
        | cons q l ih =>
          intro hn hm
          rcases List.mem_cons.mp hm with hm | hm
          · rw [← hm]; exact valV_pos rfl
          · rw [List.map_cons, List.nodup_cons] at hn
            rw [valV_neg fun e => hn.1 (by rw [e]; exact List.mem_map.mpr ⟨_, hm, rfl⟩)]
            exact ih hn.2 hm
      exact hh kvs4 n5 hmem)
    cases g1
    have lenws : ws.length < sizeLine := by
      have g5 : H4 L = some (LLo L ws) := e4.kp L _ hL3 g3
      have hh : ∀ {l : List (Key × V)} {mm : List (Key × List D)}, DlsOk X.K τ H0 H4 (res H4 (own τ σ (ρ.set i (.dls (setM m kk))))) l mm → (kk, V.ref L) ∈ l → ∃ q ∈ mm, ws.length = q.2.length := by
        intro l mm hd
        induction hd with
        | nil => intro h; cases h
        | cons hx _ ih =>
          intro hm
          rcases List.mem_cons.mp hm with hm | hm
          · obtain ⟨_, L2, vs2, f1, _, _, f4, f5⟩ := hx
            rw [← hm] at f1
            cases f1
            rw [g5] at f4
            have := llo_inj (Option.some.inj f4)
            subst this
            exact ⟨_, List.mem_cons_self .., dpAll_len f5⟩
          · obtain ⟨q, hq, h⟩ := ih hm
            exact ⟨q, List.mem_cons_of_mem _ hq, h⟩
      obtain ⟨q, hq, h⟩ := hh d4 hmem
      rw [h]
      refine Nat.lt_of_lt_of_le (m := 1000000) ?_ (by decide)
      unfold setM at hq
      split at hq
      · exact hll q hq
      · rcases List.mem_append.mp hq with hq | hq
        · exact hll q hq
        · rw [List.mem_singleton.mp hq]
          show (0 : Nat) < 1000000
          decide
    have g5 : H4 L = some (LLo L ws) := e4.kp L _ hL3 g3
    refine ⟨ws, g5, lenws, d.nx _ _ _ c ?_⟩
    have emap : appM m kk dv = (setM m kk).map fun p => if p.1 = kk then (p.1, p.2 ++ [dv]) else p := by
      unfold appM setM
      split
      · rfl
      · rename_i hno
        have hno' : ∀ p ∈ m, p.1 ≠ kk := fun p hp e => hno (List.any_eq_true.mpr ⟨p, hp, decide_eq_true e⟩)
        rw [List.map_append, List.map_cons, List.map_nil, if_pos rfl]
        congr 1
        conv => lhs; rw [← List.map_id m]
        exact List.map_congr_left fun p hp => by rw [if_neg (hno' p hp)]; rfl
    have key : Rep X.K τ H0 γ (upd H4 L (LLo L (ws ++ [y]))) σ ((ρ.set i (.dls (setM m kk))).set i (.dls (appM m kk dv))) := by
      have hk4 : ∀ b o, b ≠ L → H4 b = some o → (upd H4 L (LLo L (ws ++ [y]))) b = some o := fun b o ne e => by rw [upd_ne ne]; exact e
      have naL : a ≠ L := fun z => by rw [z, g5] at ha4; cases ha4
      refine r4.changeL hi4 (hone' _) e0 (fun b o e ne => ?_) (fun b vs e => ?_) rfl fun R le _ => ⟨a, kvs4, rfl, h0, hn, hk4 _ _ naL ha4, ?_, n4, n5⟩
      · exact hk4 b o (fun z => by rw [z, g5] at e; exact ne ws (by rw [z]; exact (Option.some.inj e).symm)) e
      · by_cases z : b = L
        · subst z
          exact .inl ⟨g2, g3⟩
        · exact .inr (hk4 b _ z e)
      · rw [emap]
        exact dls_app g5 upd_same hk4 le (dp_same le _ _ b4) d4 hmk
    rw [List.set_set] at key
    exact key
  refine ⟨kvs', kk, by rw [upd_ne (fun z => by rw [z, hL0] at ha1; cases ha1)]; exact ha1, rfl, hlen, fun v hv0 => ?_, fun hno => ?_⟩
  · obtain ⟨L, ws, rfl, g2, g3, g4, gm⟩ := dls_val d2 v hv0
    have em : setM m kk = m := by
      unfold setM
      rw [← dls_any d2, if_pos (List.any_eq_true.mpr ⟨_, gm, decide_eq_true rfl⟩)]
    exact main L ws kvs' _ (by rw [em]; exact r2) gm (by rw [upd_ne (fun z => by rw [z, hL0] at ha1; cases ha1)]; exact ha1) g4
  · have naL : a ≠ L0 := fun z => by rw [z, hL0] at ha1; cases ha1
    have em : setM m kk = m ++ [(kk, [])] := by
      unfold setM
      rw [← dls_any d2, valV_any, hno]
      rfl
    have ep : putK kvs' kk (.ref L0) = kvs' ++ [(kk, .ref L0)] := putK_new _ hno
    have hLa : (upd (upd H1 L0 (LLo L0 [])) a (.dK (putK kvs' kk (.ref L0)))) L0 = some (LLo L0 []) := by rw [upd_ne naL.symm]; exact upd_same
    have r3 := r2.change (o := .dK (putK kvs' kk (.ref L0))) (s' := .dls (setM m kk)) hir rfl rfl e0 hn h0 (by
      refine ⟨a, _, rfl, h0, hn, upd_same, ?_, ?_, ?_⟩
      · rw [em]
        have eq2 : ∀ {l l' : List (Key × V)} {HH RR : Hp} {mm : List (Key × List D)}, l = l' → DlsOk X.K τ H0 HH RR l' mm → DlsOk X.K τ H0 HH RR l mm := fun e h => by rw [e]; exact h
        refine eq2 ep (dls_snoc hL0f.1 hL0f.2 hLa (d2.mono (fun _ _ z => z) fun L vs n z => ?_))
        rw [upd_ne fun q => by rw [q, eL.kp a _ ha1 hn] at z; cases z]
        exact z
      · rw [ep, List.map_append]
        refine List.nodup_append.mpr ⟨n2, by simp, fun u hu w hw e => ?_⟩
        simp only [List.map_cons, List.map_nil, List.mem_singleton] at hw
        rw [e, hw] at hu
        have d1 := (r1.sl i _ hir)
        obtain ⟨a9, kvs9, e9, _, _, ha9, d9, _⟩ := d1
        rw [e0] at e9
        cases e9
        rw [ha1] at ha9
        cases ha9
        exact dls_no hL0 d9 hu
      · rw [ep, List.map_append]
        refine List.nodup_append.mpr ⟨n3, by simp, fun u hu w hw e => ?_⟩
        simp only [List.map_cons, List.map_nil, List.mem_singleton] at hw
        rw [e, hw] at hu
        exact valV_notin hno hu)
    rw [List.set_set] at r3
    exact main L0 [] _ _ r3 (by rw [ep]; simp) upd_same hLa
end
end Pu
/-! ### such a dict laid still; d.values(), d.keys(); a comprehension over a dict that is walked from here on -/
namespace Pu
open PySem PySem.Spec PyProof.Rows L2 PySem.W
def retag (H : Hp) : List (Addr × List V) → Hp
  | [] => H
  | p :: r => upd (retag H r) p.1 (.lst p.2)
theorem retag_cases {H : Hp} : ∀ {ps : List (Addr × List V)} {b : Addr} {o : HO}, retag H ps b = some o → (H b = some o ∧ ∀ p ∈ ps, b ≠ p.1) ∨ ∃ p ∈ ps, b = p.1 ∧ o = .lst p.2
  | [], _, _, h => .inl ⟨h, fun _ h => by cases h⟩
  | p :: r, b, o, h => by
    by_cases e : b = p.1
    · rw [e] at h
      have h : some (HO.lst p.2) = some o := upd_same.symm.trans h
      cases h
      exact .inr ⟨p, by simp, e, rfl⟩
    · have h : retag H r b = some o := (upd_ne e).symm.trans h
      rcases retag_cases h with ⟨h, g⟩ | ⟨q, hq, h⟩
      · exact .inl ⟨h, fun q hq => by
          rcases List.mem_cons.mp hq with rfl | hq
          · exact e
          · exact g q hq⟩
      · exact .inr ⟨q, by simp [hq], h⟩
theorem retag_keep {H : Hp} {b : Addr} : ∀ {ps : List (Addr × List V)}, (∀ p ∈ ps, b ≠ p.1) → retag H ps b = H b
  | [], _ => rfl
  | p :: r, h => (upd_ne (h p (by simp))).trans (retag_keep fun q hq => h q (by simp [hq]))
theorem retag_at {H : Hp} {p : Addr × List V} : ∀ {ps : List (Addr × List V)}, (ps.map (·.1)).Nodup → p ∈ ps → retag H ps p.1 = some (.lst p.2)
  | q :: r, hp, h => by
    rw [List.map_cons, List.nodup_cons] at hp
    rcases List.mem_cons.mp h with rfl | h
    · exact upd_same
    · exact (upd_ne fun e => hp.1 (by rw [← e]; exact List.mem_map.mpr ⟨p, h, rfl⟩)).trans (retag_at hp.2 h)
theorem inv_retag {X : Cx} {pins : List (Addr × Obj)} {σ : L2.St} {H : Hp} {s : Shared} (I : Inv X pins σ H s) : ∀ (ps : List (Addr × List V)), (ps.map (·.1)).Nodup → (∀ p ∈ ps, H p.1 = some (LLo p.1 p.2) ∧ p.2.length ≤ sizeLine) → Inv X pins σ (retag H ps) s
  | [], _, _ => I
  | p :: r, hn, h => by
    rw [List.map_cons, List.nodup_cons] at hn
    have I1 := inv_retag I r hn.2 fun q hq => h q (by simp [hq])
    obtain ⟨h1, h2⟩ := h p (by simp)
    have e1 : retag H r p.1 = some (LLo p.1 p.2) := (retag_keep fun q hq e => hn.1 (by rw [e]; exact List.mem_map.mpr ⟨q, hq, rfl⟩)).trans h1
    have ok := I1.hok p.1 _ e1
    have he : ∃ q, s.heap.get? p.1 = some q := let ⟨⟨_, _, _, e⟩, _⟩ := ok; ⟨_, e⟩
    exact inv_re I1 e1 trivial he (lst_of ok h2)
section
variable {K : PySem.W.Frag} {τ : Tn} {H0 H R : Hp}
theorem dls_lists : ∀ {kvs : List (Key × V)} {m : List (Key × List D)}, DlsOk K τ H0 H R kvs m → (kvs.map (·.2)).Nodup → ∃ ps : List (Addr × List V), (ps.map (·.1)).Nodup ∧ (∀ p ∈ ps, H p.1 = some (LLo p.1 p.2) ∧ H0 p.1 = none ∧ ¬ τ.ad p.1 ∧ V.ref p.1 ∈ kvs.map (·.2) ∧ ∃ q ∈ m, p.2.length = q.2.length) ∧
    ∀ (R' : Hp), (∀ p ∈ ps, R' p.1 = some (.lst p.2)) → Same R R' → KvOk K R' kvs (m.map fun q => (q.1, .list q.2))
  | _, _, .nil, _ => ⟨[], .nil, fun _ h => (by cases h), fun _ _ _ => .nil⟩
  | x :: kvs, q :: m, .cons h t, hn => by
    rw [List.map_cons, List.nodup_cons] at hn
    obtain ⟨ps, g1, g2, g3⟩ := dls_lists t hn.2
    obtain ⟨h1, L, vs, h2, h3, h4, h5, h6⟩ := h
    refine ⟨(L, vs) :: ps, ?_, fun p hp => ?_, fun R' hR e => .cons ⟨h1, ?_⟩ (g3 R' (fun p hp => hR p (by simp [hp])) e)⟩
    · rw [List.map_cons, List.nodup_cons]
      refine ⟨fun z => ?_, g1⟩
      obtain ⟨p, hp, ep⟩ := List.mem_map.mp z
      have := (g2 p hp).2.2.2.1
      rw [ep, ← h2] at this
      exact hn.1 this
    · rcases List.mem_cons.mp hp with rfl | hp
      · exact ⟨h5, h3, h4, by rw [List.map_cons, h2]; exact List.mem_cons_self .., q, List.mem_cons_self .., dpAll_len h6⟩
      · obtain ⟨f1, f2, f3, f4, w, hw, f5⟩ := g2 p hp
        exact ⟨f1, f2, f3, by rw [List.map_cons]; exact List.mem_cons_of_mem _ f4, w, List.mem_cons_of_mem _ hw, f5⟩
    · rw [h2]
      exact .lst (.inl (.inl (hR (L, vs) (by simp)))) (dpAll_same e _ _ h6)
end
section
variable {τ : Tn} {G : Gx} {cp : List Str} {N : List Str} {sc scope : Scope} {k : Nat} {X : Cx} {e f tg elt : Expr} {ifs : List Expr} {g : UG} {tt : UT} {te tk tv : UV} {t : US} {st : Stmt} {x : Str} {p p1 p2 p3 apos cpos pos : Pos}
/-- laid still: the lists are things like others -/
def sUnL (i : Nat) (t : US) : US := fun E ρ => match ρ[i]? with
  | some (.dls m) => oneL ρ i ∧ (∀ p ∈ m, p.2.length ≤ 1000000) ∧ t E (ρ.set i (.dic (m.map fun q => (q.1, .list q.2))))
  | _ => t E ρ
theorem js_unL (i : Nat) (h : JS τ X st t) : JS τ X st (sUnL i t) := fun ρ E c H0 γ σ H r Dn d => by
  unfold sUnL at c
  split at c
  · rename_i m hi
    obtain ⟨hone, hm, c⟩ := c
    obtain ⟨a, kvs, e0, h0, hn, ha, hd, hd2, hd3⟩ := r.sl i _ hi
    obtain ⟨ps, g1, g2, g3⟩ := dls_lists hd hd2
    have naL : ∀ p ∈ ps, a ≠ p.1 := fun p hp z => by
      have := (g2 p hp).1
      rw [← z, ha] at this
      cases this
    have hka : retag H ps a = some (.dK kvs) := (retag_keep naL).trans ha
    have hr : Rep X.K τ H0 γ (retag H ps) σ (ρ.set i (.dic (m.map fun q => (q.1, .list q.2)))) := by
      refine r.changeL hi hone e0 (fun b o e ne => ?_) (fun b vs e => ?_) rfl fun R le hl => ⟨a, kvs, rfl, h0, hn, hka, ?_⟩
      · refine (retag_keep fun p hp z => ?_).trans e
        have := (g2 p hp).1
        rw [← z, e] at this
        exact ne p.2 (by rw [z]; rw [z] at this; exact Option.some.inj this)
      · by_cases z : ∃ p ∈ ps, b = p.1
        · obtain ⟨p, hp, rfl⟩ := z
          exact .inl ⟨(g2 p hp).2.1, (g2 p hp).2.2.1⟩
        · exact .inr ((retag_keep fun p hp q => z ⟨p, hp, q⟩).trans e)
      · refine g3 R (fun p hp => hl _ _ (fun z => ?_) (retag_at g1 hp)) le
        rcases z with z | ⟨j, u, f1, f2, f3⟩
        · exact (g2 p hp).2.2.1 z
        · exact r.notL f1 f2 f3 (g2 p hp).1
    have hw := h _ E c H0 γ σ _ hr Dn d
    unfold wpS at hw ⊢
    intro pins s I
    exact hw pins s (inv_retag I ps g1 fun p hp => ⟨(g2 p hp).1, by
      obtain ⟨_, _, _, _, q, hq, e⟩ := g2 p hp
      rw [e]
      exact Nat.le_trans (hm q hq) (by decide)⟩)
  · exact h ρ E c H0 γ σ H r Dn d
theorem dls_ref {K : PySem.W.Frag} {H0 H R : Hp} {a : Addr} {kvs0 : List (Key × V)} : ∀ {kvs : List (Key × V)} {m : List (Key × List D)}, DlsOk K τ H0 H R kvs m → ∀ p ∈ kvs, H a = some (.dK kvs0) → ∃ L : Addr, p.2 = .ref L ∧ L ≠ a ∧ H0 L = none
  | _, _, .cons h t, p, hp, ha => by
    rcases List.mem_cons.mp hp with rfl | hp
    · obtain ⟨_, L, vs, e, h1, h2, h3, _⟩ := h
      exact ⟨L, e, (fun z => by rw [z, ha] at h3; cases h3), h1⟩
    · exact dls_ref t p hp ha
def sRetL (i : Nat) : US := fun E ρ => match ρ[i]? with
  | some (.dls m) => oneL ρ i ∧ (∀ p ∈ m, p.2.length ≤ 1000000) ∧ E.rt (.dll m)
  | some (.dic kds) => E.rt (.dic kds)
  | _ => False
theorem js_retL {p2 pos : Pos} (S : Ok cp G N sc k X) (i : Nat) (hN : N[i]? = some x := by rfl) (hv : Vis sc x := by first | exact Or.inl rfl | exact Or.inr (Or.inl rfl) | exact Or.inr (Or.inr rfl)) (hdb : (x == ("__debug__" : Str)) = false := by decide) (hcd : (x == ("__classdict__" : Str)) = false := by decide) :
    JS τ X (.Return (some (.Name x p2)) pos) (sRetL i) := fun ρ E c H0 γ σ H r Dn d => by
  unfold sRetL at c
  split at c
  · rename_i m hi
    obtain ⟨hone, hm, c⟩ := c
    obtain ⟨a, kvs, e0, h0, hn, ha, hd, hd2, hd3⟩ := r.sl i _ hi
    obtain ⟨ps, g1, g2, g3⟩ := dls_lists hd hd2
    have naL : ∀ p ∈ ps, a ≠ p.1 := fun p hp z => by
      have := (g2 p hp).1
      rw [← z, ha] at this
      cases this
    have hka : retag H ps a = some (.dK kvs) := (retag_keep naL).trans ha
    have hr : Rep X.K τ H0 γ (retag H ps) σ (ρ.set i (.dic (m.map fun q => (q.1, .list q.2)))) := by
      refine r.changeL hi hone e0 (fun b o e ne => ?_) (fun b vs e => ?_) rfl fun R le hl => ⟨a, kvs, rfl, h0, hn, hka, ?_⟩
      · refine (retag_keep fun p hp z => ?_).trans e
        have := (g2 p hp).1
        rw [← z, e] at this
        exact ne p.2 (by rw [z]; rw [z] at this; exact Option.some.inj this)
      · by_cases z : ∃ p ∈ ps, b = p.1
        · obtain ⟨p, hp, rfl⟩ := z
          exact .inl ⟨(g2 p hp).2.1, (g2 p hp).2.2.1⟩
        · exact .inr ((retag_keep fun p hp q => z ⟨p, hp, q⟩).trans e)
      · refine g3 R (fun p hp => hl _ _ (fun z => ?_) (retag_at g1 hp)) le
        rcases z with z | ⟨j, u, f1, f2, f3⟩
        · exact (g2 p hp).2.2.1 z
        · exact r.notL f1 f2 f3 (g2 p hp).1
    have hil : i < ρ.length := (List.getElem?_eq_some_iff.mp hi).1
    have hi2 : (ρ.set i (.dic (m.map fun q => (q.1, .list q.2))))[i]? = some (.dic (m.map fun q => (q.1, .list q.2))) := by rw [List.getElem?_set_self hil]
    obtain ⟨a', kvs', e0', h0', hn', ha', hk'⟩ := hr.sl i _ hi2
    rw [e0] at e0'
    cases e0'
    rw [hka] at ha'
    cases ha'
    have ho : own τ σ (ρ.set i (.dic (m.map fun q => (q.1, .list q.2)))) a := .inr ⟨i, _, hi2, rfl, e0⟩
    have hw := wpS_of (ps_ret (pos := pos) (pe_var (pos := p2) (i := i) (by rw [S.eN]; exact hN) (by rw [S.es]; exact hv) hdb hcd)) ⟨_, e0, d.rt (.dll m) (.ref a) (retag H ps) c hr.ext hr.inv ⟨a, kvs, rfl, h0, hka, KvOk.same (res_mono fun b o n q => ⟨fun z => n (z.elim own_ad fun z => by rw [z]; exact ho), q⟩) hk', fun p hp => dls_ref hd p hp ha⟩⟩
    unfold wpS at hw ⊢
    intro pins s I
    exact hw pins s (inv_retag I ps g1 fun p hp => ⟨(g2 p hp).1, by
      obtain ⟨_, _, _, _, q, hq, e⟩ := g2 p hp
      rw [e]
      exact Nat.le_trans (hm q hq) (by decide)⟩)
  · rename_i kds hi
    exact js_retV S i hN hv hdb hcd ρ E (by unfold sRetV; rw [hi]; exact c) H0 γ σ H r Dn d
  · exact c.elim
end
/-! views -/
def vwO (T : String) (p d : Addr) : HO := .ext fun h => h.get? p = some { cls := .type T, data := .fields #[.ref d] }
theorem vwO_ok {P : Program} {w : World} {H : Hp} {h : Heap} {T : String} {p d : Addr} (e : h.get? p = some { cls := .type T, data := .fields #[.ref d] }) : ObjOk P w H h p (vwO T p d) := ⟨e, ⟨_, e⟩, fun _ _ x k => k _ x⟩
section
variable {X : Cx}
def rView (T : String) : V → List V → Hp → VK → Prop := fun x xs H Q => ∃ (a : Addr) (kvs : List (Key × V)), x = .ref a ∧ xs = [] ∧ Rd H a (.dK kvs) ∧ ∀ p, H p = none → Q (.ref p) (upd H p (vwO T p a))
theorem mt_values : MtR X "dict.values" (rView "dict_values") := by
  intro pins s σ H x xs v us Q I rx rxs h
  obtain ⟨a, kvs, rfl, rfl, ha, q⟩ := h
  cases rx
  cases rxs
  obtain ⟨z, hd, vs, rel, dd⟩ := dk_rd I.hok ha
  refine call_meetsIn PySem.F.slot_dict_values dd.typeIs PySem.F.entry_dict_values (PySem.F.args_dict_values_1 _) (meets_dict_values (mixKind X.prog X.w) a hd) ⟨⟨vs, dd⟩, ?_⟩
  exact ⟨.ref s.heap.objs.size, _, I.laid (t' := s.toks) (fun b u e => Heap.get?_push_of_some _ e) (Nat.le_refl _) (vwO_ok (Heap.get?_push_size _ rfl)), rfl, q _ (I.hok.fresh (Nat.le_refl _))⟩
theorem mt_keys : MtR X "dict.keys" (rView "dict_keys") := by
  intro pins s σ H x xs v us Q I rx rxs h
  obtain ⟨a, kvs, rfl, rfl, ha, q⟩ := h
  cases rx
  cases rxs
  obtain ⟨z, hd, vs, rel, dd⟩ := dk_rd I.hok ha
  refine call_meetsIn PySem.F.slot_dict_keys dd.typeIs PySem.F.entry_dict_keys (PySem.F.args_dict_keys_1 _) (kdl_meets_keys (mixKind X.prog X.w) a hd) ⟨⟨vs, dd⟩, ?_⟩
  exact ⟨.ref s.heap.objs.size, _, I.laid (t' := s.toks) (fun b u e => Heap.get?_push_of_some _ e) (Nat.le_refl _) (vwO_ok (Heap.get?_push_size _ rfl)), rfl, q _ (I.hok.fresh (Nat.le_refl _))⟩
/-- list(d.values()) -/
def rLVals : List V → Hp → VK → Prop := fun xs H Q => ∃ (p a : Addr) (kvs : List (Key × V)), xs = [.ref p] ∧ H p = some (vwO "dict_values" p a) ∧ Rd H a (.dK kvs) ∧ ∀ q, H q = none → Q (.ref q) (upd H q (.lst (kvs.map (·.2))))
theorem cr_lvals (hc : X.calm = true) : CallR X (.type "list") rLVals := by
  intro pins s σ H xs us Q I r h
  obtain ⟨p, a, kvs, rfl, hp, ha, q⟩ := h
  obtain rfl := Vals.ref1 r
  obtain ⟨z, lo, vs, rk, o, es, ep, h1, h2, h3, h4, h5, h6⟩ := dk_rd I.hok ha
  have hv := (show ObjOk X.prog X.w H s.heap p (vwO "dict_values" p a) from I.hok p _ hp).1
  have hl : kvs.length = vs.length := Paired.length rk
  have hle : es.size = vs.length := by
    have := h5.length
    simpa using this
  refine PySem.W.kdl_call (KdlSrc.rawValues (es := es) (ep := ep)) (I.ok.hd hc) ⟨⟨_, hv, rfl, rfl⟩, ⟨o, h1, h2, h3⟩⟩ (by rw [hle, ← hl]; exact z) fun h' tk acc' c' hkeep hS hacc => ?_
  refine ⟨.ref s.heap.objs.size, upd H s.heap.objs.size (.lst (kvs.map (·.2))), I.laid hkeep (Nat.le_refl _) (show ObjOk X.prog X.w _ _ _ (.lst (kvs.map (·.2))) from ⟨?_, acc'.toList, c', ?_, ?_⟩), rfl, q _ (I.hok.fresh (Nat.le_refl _))⟩
  · rw [List.length_map]; exact z
  · have el : acc'.toList.length = acc'.size := by simp
    refine vals_of_at (by rw [List.length_map, el, hacc.1, hl, hle]) fun j x w h7 h8 => ?_
    obtain ⟨hi, e8⟩ := hacc.2 j w (by rw [← Array.getElem?_toList]; exact h8)
    rw [List.getElem?_map] at h7
    cases hk : kvs[j]? with
    | none => rw [hk] at h7; cases h7
    | some kv =>
      rw [hk] at h7
      cases h7
      obtain ⟨kv2, g1⟩ : ∃ kv2, vs[j]? = some kv2 := ⟨vs[j]'(by have := (List.getElem?_eq_some_iff.mp hk).1; omega), List.getElem?_eq_getElem _⟩
      obtain ⟨kv', g2, _, g3⟩ := paired_get rk j kv2 g1
      rw [hk] at g2
      cases g2
      have : es[j].val = kv2.2 := by
        have hp : ∀ {l : List DictEntry} {m : List (Key × Value)} {i : Nat} {e : DictEntry} {kv : Key × Value}, Pairs (mixKind X.prog X.w) l m → l[i]? = some e → m[i]? = some kv → e.val = kv.2 := by
          intro l m i e kv hP
          induction hP generalizing i with
          | nil => intro h; simp at h
          | cons _ h2 _ ih =>
            cases i with
            | zero => intro a b; cases a; cases b; exact h2
            | succ i => intro a b; exact ih (by simpa using a) (by simpa using b)
        exact hp h5 (i := j) (by rw [Array.getElem?_toList]; exact Array.getElem?_eq_getElem hi) g1
      rw [e8, this]
      exact g3
  · rw [Array.toArray_toList]; exact hS
/-- sorted(d.keys()) -/
def rSKeys (K : PySem.W.Frag) : List V → Hp → VK → Prop := fun vs H Q => ∃ (p a : Addr) (kvs : List (Key × V)), vs = [V.ref p] ∧ H p = some (vwO "dict_keys" p a) ∧ Rd H a (.dK kvs) ∧ AllAlike (kvs.map fun p => kD p.1) ∧ Sortable (kvs.map fun p => kD p.1) ∧
  ∀ ys q, (∀ H' : Hp, DpAll K H' ys ((kvs.map fun p => kD p.1).mergeSort dLe)) → H q = none → Q (.ref q) (upd H q (.lst ys))
theorem dp_kD {K : PySem.W.Frag} {H : Hp} : ∀ k : Key, Dp K H (kV k) (kD k)
  | .inl i => .int i
  | .inr x => .str x
theorem dp_kDs {K : PySem.W.Frag} {H : Hp} : ∀ kvs : List (Key × V), DpAll K H (kvs.map fun p => kV p.1) (kvs.map fun p => kD p.1)
  | [] => .nil
  | p :: kvs => .cons (dp_kD p.1) (dp_kDs kvs)
theorem cr_skeys (hc : X.calm = true) (hu : X.A.units + 65 < cLine) : CallR X (.builtin "sorted") (rSKeys X.K) := by
  intro pins s σ H vs us Q I r h
  obtain ⟨p, a, kvs, rfl, hp, ha, hal, hk, q⟩ := h
  obtain rfl := Vals.ref1 r
  obtain ⟨z, lo, vs, rk, dd⟩ := dk_rd I.hok ha
  obtain ⟨ep, hat⟩ := dd.dictAt
  have hv := (show ObjOk X.prog X.w H s.heap p (vwO "dict_keys" p a) from I.hok p _ hp).1
  have l2 : kvs.length = vs.length := Paired.length rk
  refine Calls.call_function_entry kind_sorted plain_sorted entry_sorted (args_sorted1 _) ?_
  unfold Builtin.«sorted»
  refine wpAny_bind (m := checkCount "sorted" 1 1 _) (wpAny_pure ?_)
  refine wpAny_bind (PySem.W.kdu_collect (A := X.A.in1) (PySem.W.kdl_keys (knd := mixKind X.prog X.w) (kvs := vs) (ep := ep)) (I.ok.hd hc) ⟨⟨_, hv, rfl, rfl⟩, hat⟩ (by rw [← l2]; exact z) fun h' tk acc kp it => ?_)
  obtain ⟨xs, hxs⟩ : ∃ xs, (kvs.map fun p => kV p.1) = xs := ⟨_, rfl⟩
  obtain ⟨ds, hds⟩ : ∃ ds, (kvs.map fun p => kD p.1) = ds := ⟨_, rfl⟩
  have rv : Vals xs acc.toList := by
    have el : acc.toList.length = acc.size := by simp
    refine vals_of_at (by rw [← hxs, List.length_map, el, it.1, l2]) fun j x w h1 h2 => ?_
    obtain ⟨k, y, hky, hi⟩ := it.2 j w (by rw [← Array.getElem?_toList]; exact h2)
    have e1 : (kvs.map (·.1))[j]? = some k := by
      rw [KV.keys rk, List.getElem?_map, hky] <;> rfl
    have e2 : xs[j]? = some (kV k) := by
      have e3 : xs = (kvs.map (·.1)).map kV := by rw [← hxs, List.map_map] <;> rfl
      rw [e3, List.getElem?_map, e1] <;> rfl
    rw [e2] at h1
    cases h1
    exact keyIs_rel hi
  have hdd : ∀ H' : Hp, DpAll X.K H' xs ds := fun H' => by
    rw [← hxs, ← hds]
    exact dp_kDs kvs
  have hdl := dpAll_len (hdd H)
  have hxl : xs.length ≤ sizeLine := by rw [← hxs, List.length_map]; exact z
  have hzi : acc.toList.length ≤ sizeLine := by rw [← rv.length]; exact hxl
  have hdep : ∀ d ∈ ds, d.depth ≤ 32 := fun d hd => by
    rw [← hds] at hd
    obtain ⟨p, _, rfl⟩ := List.mem_map.mp hd
    cases p.1 <;> exact Nat.zero_le _
  rw [hds] at hal hk q
  obtain ⟨its, hits⟩ : ∃ its, acc.toList = its := ⟨_, rfl⟩
  rw [hits] at rv hzi ⊢
  obtain ⟨z1, z2, z3⟩ := zip_dpAll (hdd H)
  refine wpAny_bind (wpAny_newList ?_ hzi)
  have hoL : (h'.push (seqObj "list" its.toArray 0)).get? h'.objs.size = some (seqObj "list" its.toArray 0) := Heap.get?_push_size _ rfl
  have hkeep : ∀ b o', s.heap.get? b = some o' → (h'.push (seqObj "list" its.toArray 0)).get? b = some o' := fun b o' e => Heap.get?_push_of_some _ (kp b o' e)
  have e1 : EachIs (fun u (p : V × D) => RelV p.1 u) its (xs.zip ds) := each_zip rv hdl fun v d u _ h => h
  have e2 : EachIs (fun u (p : V × D) => ∃ as, Reads (h'.push (seqObj "list" its.toArray 0)) u p.2 as ∧ h'.objs.size ∉ as) its (xs.zip ds) := each_zip rv hdl fun v d u hm hr => by
    obtain ⟨as, rd⟩ := Dp.reads I d v u (z1 _ hm) hr
    refine ⟨as, PyProof.Rows.Reads.keeps (fun _ _ => hkeep _ _) rd, fun hin => ?_⟩
    obtain ⟨o', ho'⟩ := PyProof.On.reads_mem_get rd _ hin
    exact absurd (Heap.lt_size (kp _ _ ho')) (Nat.lt_irrefl _)
  have hal' : AllAlike ((xs.zip ds).map Prod.snd) := by rw [z2]; exact hal
  have hk' : Sortable ((xs.zip ds).map Prod.snd) := by rw [z2]; exact hk
  show wpAny _ _ _ _ _ { s with heap := h'.push (seqObj "list" its.toArray 0), toks := tk }
  refine wpAny_bind (wpAny_holding (list_sort_data (R := fun u (p : V × D) => RelV p.1 u) (enc := Prod.snd) (s := { s with heap := h'.push (seqObj "list" its.toArray 0), toks := tk }) hoL e1 e2 hal' hk' (by rw [List.length_zip]; omega) (fun p hp => ?_) fun out ho1 ho2 => ?_))
  · have hm : p.2 ∈ ds := by
      rw [← z2]
      exact List.mem_map_of_mem (f := Prod.snd) hp
    have h1 := hdep _ hm
    have h2 : X.A.in1.units = X.A.units + 1 := rfl
    rw [h2]
    omega
  · have I1 : L2.Inv X pins σ H { s with heap := h', toks := tk } := I.kept kp
    have hsz : h'.objs.size < (h'.push (seqObj "list" its.toArray 0)).objs.size := by rw [size_push']; omega
    have k3 : ∀ b u, h'.get? b = some u → (sortedHeap (h'.push (seqObj "list" its.toArray 0)) h'.objs.size its out.toArray).get? b = some u := fun b u e => by
      have hlt := Heap.lt_size e
      rw [sortedHeap_old (Nat.ne_of_lt hlt) (Nat.lt_trans hlt hsz)]
      exact Heap.get?_push_of_some _ e
    obtain ⟨n2, hn2⟩ := sortedHeap_at (out := out.toArray) hoL
    have hv : Vals (((xs.zip ds).mergeSort (dataLe false Prod.snd)).map Prod.fst) out := vals_each ho2
    refine wpAny_pure ⟨_, rfl, .ref h'.objs.size, upd H h'.objs.size (.lst (((xs.zip ds).mergeSort (dataLe false Prod.snd)).map Prod.fst)), I1.laid (t' := tk) k3 (Nat.le_refl _) ⟨?_, out, n2, hv, hn2⟩, rfl, q _ _ (fun H' => ?_) (I1.hok.fresh (Nat.le_refl _))⟩
    · rw [List.length_map, List.length_mergeSort, List.length_zip]
      omega
    · obtain ⟨w1, w2, w3⟩ := zip_dpAll (hdd H')
      have e5 : ds.mergeSort dLe = ((xs.zip ds).mergeSort (dataLe false Prod.snd)).map Prod.snd := by
        have := List.map_mergeSort (r := dataLe false Prod.snd) (s := dLe) (f := Prod.snd) (l := xs.zip ds) (fun a _ b _ => rfl)
        rw [this, w2]
      rw [e5]
      exact dpAll_of fun p hp => w1 p (List.mem_mergeSort.mp hp)
end
section
variable {τ : Tn} {G : Gx} {cp : List Str} {N : List Str} {sc scope : Scope} {k : Nat} {X : Cx} {e f tg elt : Expr} {ifs : List Expr} {g : UG} {tt : UT} {te tk tv : UV} {t : US} {st : Stmt} {x : Str} {p p1 p2 p3 apos cpos pos : Pos}
theorem kv_vals {K : PySem.W.Frag} {H : Hp} : ∀ {kvs : List (Key × V)} {kds : List (Key × D)}, KvOk K H kvs kds → DpAll K H (kvs.map (·.2)) (kds.map (·.2))
  | _, _, .nil => .nil
  | _, _, .cons h t => .cons h.2 (kv_vals t)
theorem tyD {K : PySem.W.Frag} {H : Hp} {a : Addr} {kvs : List (Key × V)} (h : H a = some (.dK kvs)) : tyV K "dict" (.ref a) H := .inr (.inr (.inl ⟨rfl, .inl ⟨_, h⟩⟩))
def eLVals (i : Nat) : UE := fun ρ C => kSl ρ[i]? fun kds => C (.lst (kds.map (·.2)))
theorem k_slot {K : PySem.W.Frag} {H0 H : Hp} {γ : List (V × D)} {σ : L2.St} {ρ : En} {i : Nat} {C : List (Key × D) → Prop} (r : Rep K τ H0 γ H σ ρ) (hs : kSl ρ[i]? C) : ∃ a kvs kds, C kds ∧ σ[i]? = some (some (.ref a)) ∧ H a = some (.dK kvs) ∧ KvOk K (res H (own τ σ ρ)) kvs kds := by
  cases hi : ρ[i]? with
  | none => rw [hi] at hs; exact hs.elim
  | some s =>
    rw [hi] at hs
    cases s with
    | dic kds =>
      obtain ⟨a, kvs, e0, h0, hn, h, h'⟩ := r.sl i _ hi
      exact ⟨a, kvs, kds, hs, e0, h, h'⟩
    | _ => exact hs.elim
theorem je_lvals (S : Ok cp G N sc k X) (i : Nat) (hm : Free G "list") (hN : N[i]? = some x := by rfl) (hvis : Vis sc x := by first | exact Or.inl rfl | exact Or.inr (Or.inl rfl) | exact Or.inr (Or.inr rfl)) (hd : (x == ("__debug__" : Str)) = false := by decide) (hcd : (x == ("__classdict__" : Str)) = false := by decide)
    (hg : sc.names.lookup ("list" : Str) = some .globalImplicit := by rfl) (hline : (apos.endLine == cpos.line) = true := by rfl) (hbase : attributeBase (.Name x p2) "values" X.env (eval (.Name x p2) X.env) = eval (.Name x p2) X.env := by rfl) :
    JE τ X (.Call (.Name "list" p) [.Call (.Attribute (.Name x p2) "values" apos) [] [] cpos] [] pos) (eLVals i) := fun ρ C c H0 γ σ H r Q q => by
  refine wpE_of (pe_callTy (cr_lvals S.calm) (by show X.env.scope.names.lookup ("list" : Str) = _; rw [S.es]; exact hg) (by rw [S.em]; exact hm) (by decide +kernel : bootBuiltins "list" = some (.type "list")) (pa_cons (pe_bm0 PySem.F.plainAttrs_dict PySem.F.slot_dict_values PySem.F.type_dict_values mt_values (pe_var (i := i) (by rw [S.eN]; exact hN) (by rw [S.es]; exact hvis) hd hcd) hbase hline) pa_nil (by rfl)) (by decide) (by decide) (by rfl) (by rfl)) ?_
  obtain ⟨a, kvs, kds, c, e0, h1, h2⟩ := k_slot r c
  refine ⟨_, e0, tyD h1, a, kvs, rfl, rfl, .inl h1, fun v hv => ?_⟩
  have e1 : Ext τ H (upd H v (vwO "dict_values" v a)) := .new hv
  refine ⟨v, a, kvs, rfl, upd_same, .inl (by rw [upd_ne (ne_of_none h1 hv)]; exact h1), fun l hl => q _ _ _ c (e1.trans (.new hl)) ?_⟩
  exact rs_back r e1 (new_lst (r.after e1) hl (dpAll_after e1 (kv_vals h2)))
def eSKeys (i : Nat) : UE := fun ρ C => kSl ρ[i]? fun kds => AllAlike (kds.map fun p => kD p.1) ∧ Sortable (kds.map fun p => kD p.1) ∧ C (.lst ((kds.map fun p => kD p.1).mergeSort dLe))
theorem je_skeys (S : Ok cp G N sc k X) (i : Nat) (hm : Free G "sorted") (hN : N[i]? = some x := by rfl) (hvis : Vis sc x := by first | exact Or.inl rfl | exact Or.inr (Or.inl rfl) | exact Or.inr (Or.inr rfl)) (hd : (x == ("__debug__" : Str)) = false := by decide) (hcd : (x == ("__classdict__" : Str)) = false := by decide)
    (hg : sc.names.lookup ("sorted" : Str) = some .globalImplicit := by rfl) (hline : (apos.endLine == cpos.line) = true := by rfl) (hbase : attributeBase (.Name x p2) "keys" X.env (eval (.Name x p2) X.env) = eval (.Name x p2) X.env := by rfl) :
    JE τ X (.Call (.Name "sorted" p) [.Call (.Attribute (.Name x p2) "keys" apos) [] [] cpos] [] pos) (eSKeys i) := fun ρ C c H0 γ σ H r Q q => by
  refine wpE_of (pe_callB (cr_skeys S.calm (units65 S.room)) (by show X.env.scope.names.lookup ("sorted" : Str) = _; rw [S.es]; exact hg) (by rw [S.em]; exact hm) (by decide +kernel : bootBuiltins "sorted" = some (.builtin "sorted")) (pa_cons (pe_bm0 PySem.F.plainAttrs_dict PySem.F.slot_dict_keys PySem.F.type_dict_keys mt_keys (pe_var (i := i) (by rw [S.eN]; exact hN) (by rw [S.es]; exact hvis) hd hcd) hbase hline) pa_nil (by rfl)) (by decide) (by decide) (by rfl) (by rfl)) ?_
  obtain ⟨a, kvs, kds, c, e0, h1, h2⟩ := k_slot r c
  rw [kv_keysD h2] at c
  refine ⟨_, e0, tyD h1, a, kvs, rfl, rfl, .inl h1, fun v hv => ?_⟩
  have e1 : Ext τ H (upd H v (vwO "dict_keys" v a)) := .new hv
  refine ⟨v, a, kvs, rfl, upd_same, .inl (by rw [upd_ne (ne_of_none h1 hv)]; exact h1), c.1, c.2.1, fun ys l hy hl => q _ _ _ c.2.2 (e1.trans (.new hl)) ?_⟩
  exact rs_back r e1 (new_lst (r.after e1) hl (hy _))
/-! a comprehension over a dict that is walked from here on -/
def eLcL (i : Nat) (g : UG) (tt : UT) (te : UV) (vs : List Nat) : UE := fun ρ C => match ρ[i]? with
  | some (.ldc kds) => noOwn ρ vs ∧ kds.length ≤ 1000000 ∧ lcC g tt te (fun acc => C (.lst acc)) (wipeS ρ vs) (kds.map fun p => kD p.1) []
  | _ => False
theorem je_lcL (own_ : List (Str × Nat)) (S : Ok cp G N sc k X) (i : Nat) (hg : ∀ X', Ok (capt scope) G N (relS scope sc) k X' → JGc (own_.map (·.2)) τ X' tg g) (ht : ∀ X', Ok (capt scope) G N (relS scope sc) k X' → JTs τ X' ifs tt) (he : ∀ X', Ok (capt scope) G N (relS scope sc) k X' → JD τ X' elt te)
    (hok : blkC N sc scope own_ = true := by decide +kernel) (hN : N[i]? = some x := by rfl) (hvis : Vis sc x := by first | exact Or.inl rfl | exact Or.inr (Or.inl rfl) | exact Or.inr (Or.inr rfl)) (hdb : (x == ("__debug__" : Str)) = false := by decide) (hcd : (x == ("__classdict__" : Str)) = false := by decide)
    (hs : ∀ y, foldedSetIterable (.Name x p2) X.env y = pure y := by intro _; rfl) : JE τ X (.ListComp elt [⟨tg, .Name x p2, ifs, 0⟩] scope pos) (eLcL i g tt te (own_.map (·.2))) := fun ρ C c H0 γ σ H r Q q => by
  unfold eLcL at c
  split at c
  · rename_i kds hi
    obtain ⟨hno, hkl, c⟩ := c
    obtain ⟨p, od, kvs, e0, h, h'⟩ := r.sl i _ hi
    have hpv := pe_var (X := X) (i := i) (x := x) (pos := p2) (by rw [S.eN]; exact hN) (by rw [S.es]; exact hvis) hdb hcd
    have nad : ¬ τ.ad p := fun z => (res_some.mp h).1 (own_ad z)
    refine wpE_of (pe_lc (own := own_) S.calm (by rw [S.eN]; exact S.nd) pi_w (by rw [S.eN, S.es]; exact blkOk_by hok) (g := wgB X scope tg) (tt := wtB X scope ifs) (te := weB X scope elt) (fun s H C cl fp => ⟨fun pins s' σ H' v u Q I rv h => pg_w.run pins s' σ H' v u Q I rv (h _ ⟨s, H, C, cl, fp, rfl⟩)⟩) pts_B (fun s H C cl fp => ⟨fun pins s' σ H' Q I h => pe_w.run pins s' σ H' Q I (h _ ⟨s, H, C, cl, fp, rfl⟩)⟩) hs) ?_
    exact lcK_read own_ S hg ht he (blkOk_by hok) ρ C _ hno c H0 γ σ _ r p od kvs (res_at h) nad (kv_keysD h') (by rw [List.length_map]; exact small_line hkl) _ (fun acc v H2 c e hr => q _ v H2 c e hr) fun R hR => wpI_of (pi_keys hpv) ⟨_, e0, p, od, rfl, .inl ⟨kvs, res_at h, hR⟩⟩
  · exact c.elim
/-! lemmas for the math -/
variable {ρ : En} {C : D → Prop} {R : Rs → Prop} {E : Ed} {i : Nat} {vs : List Nat}
theorem c_sSetApp : sSetApp i tk tv E ρ = ∃ m, dls0 ρ[i]? = some m ∧ tk ρ fun dk => ∃ k, keyD dk = some k ∧ m.length < 1000000 ∧ (∀ p ∈ m, p.2.length < 1000000) ∧ oneL ρ i ∧ tv (ρ.set i (.dls (setM m k))) fun d => E.nx (ρ.set i (.dls (appM m k d))) := propext Iff.rfl
def rtLs (E : Ed) (ρ : En) (i : Nat) : Option Sl → Prop
  | some (.dls m) => oneL ρ i ∧ (∀ p ∈ m, p.2.length ≤ 1000000) ∧ E.rt (.dll m)
  | some (.dic kds) => E.rt (.dic kds)
  | _ => False
def unLs (E : Ed) (t : US) (ρ : En) (i : Nat) : Option Sl → Prop
  | some (.dls m) => oneL ρ i ∧ (∀ p ∈ m, p.2.length ≤ 1000000) ∧ t E (ρ.set i (.dic (m.map fun q => (q.1, .list q.2))))
  | _ => t E ρ
theorem c_sUnL : sUnL i t E ρ = unLs E t ρ i ρ[i]? := by
  unfold sUnL
  cases ρ[i]? with
  | none => rfl
  | some s => cases s <;> rfl
theorem sl_dll {m : List (Key × List D)} : Rs.sl (.dll m) = .dic (toK m) := rfl
theorem lf_dll {m : List (Key × List D)} : Rs.lf (.dll m) = m.all fun q => lfAll q.2 := rfl
theorem c_sRetL : sRetL i E ρ = rtLs E ρ i ρ[i]? := by
  unfold sRetL rtLs
  rfl
theorem rtLs_m {m : List (Key × List D)} : rtLs E ρ i (some (.dls m)) = (oneL ρ i ∧ (∀ p ∈ m, p.2.length ≤ 1000000) ∧ E.rt (.dll m)) := rfl
theorem rtLs_d {kds : List (Key × D)} : rtLs E ρ i (some (.dic kds)) = E.rt (.dic kds) := rfl
theorem unLs_m {m : List (Key × List D)} : unLs E t ρ i (some (.dls m)) = (oneL ρ i ∧ (∀ p ∈ m, p.2.length ≤ 1000000) ∧ t E (ρ.set i (.dic (m.map fun q => (q.1, .list q.2))))) := rfl
theorem unLs_d {kds : List (Key × D)} : unLs E t ρ i (some (.dic kds)) = t E ρ := rfl
theorem c_eLVals : eLVals i ρ R = kSl ρ[i]? fun kds => R (.lst (kds.map (·.2))) := propext Iff.rfl
theorem c_eSKeys : eSKeys i ρ R = kSl ρ[i]? fun kds => AllAlike (kds.map fun p => kD p.1) ∧ Sortable (kds.map fun p => kD p.1) ∧ R (.lst ((kds.map fun p => kD p.1).mergeSort dLe)) := propext Iff.rfl
theorem c_eLcL : eLcL i g tt te vs ρ R = ldSl ρ[i]? fun kds => noOwn ρ vs ∧ kds.length ≤ 1000000 ∧ lcC g tt te (fun acc => R (.lst acc)) (wipeS ρ vs) (kds.map fun p => kD p.1) [] := by
  unfold eLcL
  cases ρ[i]? with
  | none => rfl
  | some s => cases s <;> rfl
end
end Pu
namespace Pu
open PySem PySem.Spec PyProof.Rows L2
/-! ### a town whose draws are counted: families of Tn, budgets -/
structure Fm where
  ad : Addr → Prop
  inv : Nat → Hp → Prop
  val : V
  tr : ∀ {k : Nat} {H : Hp} {a : Addr}, inv k H → ad a → ∃ o, H a = some o ∧ Mv o
  dep : ∀ {k : Nat} {H H' : Hp}, (∀ a o, H a = some o → ad a ∨ ¬ Lk o → H' a = some o) → inv k H → inv k H'
  mono : ∀ {k k' : Nat} {H : Hp}, k ≤ k' → inv k H → inv k' H
/-- nothing is asked of the beginning -/
def Tn.free (τ : Tn) : Prop := ∀ H, τ.z H
def Fm.at_ (f : Fm) (k : Nat) : Tn := ⟨f.ad, f.inv k, f.val, f.tr, f.dep, fun _ => True⟩
/-- the town as it is in H -/
def Fm.exa (f : Fm) (k : Nat) (H : Hp) (hi : f.inv k H) : Tn where
  ad := f.ad
  inv := fun H' => (∀ a, f.ad a → H' a = H a) ∧ ∀ a o, H a = some o → ¬ Lk o → H' a = some o
  val := f.val
  tr := fun {H'} {a} h q => by
    obtain ⟨o, e, m⟩ := f.tr hi q
    exact ⟨o, (h.1 a q).trans e, m⟩
  dep := fun {H1 H'} e h => ⟨fun a q => by
    obtain ⟨o, e1, m⟩ := f.tr hi q
    rw [e a o ((h.1 a q).trans e1) (.inl q), e1], fun a o e1 n => e a o (h.2 a o e1 n) (.inr n)⟩
  z := fun _ => True
theorem Fm.back {f : Fm} {k : Nat} {H H' : Hp} {hi : f.inv k H} (h : (f.exa k H hi).inv H') : f.inv k H' := f.dep (fun a o e q => by
    by_cases c : f.ad a
    · rw [h.1 a c]
      exact e
    · rcases q with q | q
      · exact absurd q c
      · exact h.2 a o e q) hi
/-- no more draws than this -/
def kMax : Nat := 2 ^ 4096
section
variable {f : Fm} {k k' k'' b b' b1 b2 : Nat} {H H1 H2 H0 : Hp} {γ : List (V × D)} {σ : St} {ρ : En} {K : PySem.W.Frag} {G : Gx} {X : Cx} {e : Expr}
theorem Rep.to (r : Rep K (f.at_ k) H0 γ H σ ρ) (i : f.inv k' H) : Rep K (f.at_ k') H0 γ H σ ρ := ⟨r.len, r.ext, i, r.sl, r.sep, r.gh, r.zz⟩
theorem Rep.up (r : Rep K (f.at_ k) H0 γ H σ ρ) (h : k ≤ k') : Rep K (f.at_ k') H0 γ H σ ρ := r.to (f.mono h r.inv)
theorem Rep.exa (r : Rep K (f.at_ k) H0 γ H σ ρ) : Rep K (f.exa k H r.inv) H0 γ H σ ρ := ⟨r.len, r.ext, ⟨fun _ _ => rfl, fun _ _ h _ => h⟩, r.sl, r.sep, r.gh, r.zz⟩
theorem Ext.up (e : Ext (f.at_ k) H H1) (i : f.inv k H) (h : k ≤ k') : Ext (f.at_ k') H H1 := ⟨e.kp, fun _ => f.mono h (e.inv i)⟩
theorem Ext.exa {hi : f.inv k H} (e : Ext (f.exa k H hi) H H1) (h : k ≤ k') : Ext (f.at_ k') H H1 := ⟨e.kp, fun _ => f.mono h (f.back (e.inv ⟨fun _ _ => rfl, fun _ _ h _ => h⟩))⟩
end
/-! ### judgements with a budget -/
def JEb (f : Fm) (b : Nat) (X : Cx) (e : Expr) (t : UE) : Prop := ∀ k k', k + b ≤ k' → k' ≤ kMax → ∀ (ρ : En) (C : Rs → Prop), t ρ C → ∀ (H0 : Hp) (γ : List (V × D)) (σ : St) (H : Hp), Rep X.K (f.at_ k) H0 γ H σ ρ → ∀ Q : VK,
  (∀ r v H2, C r → Ext (f.at_ k') H H2 → RsOk X.K (f.at_ k') H H2 σ ρ v r → Q v H2) → wpE X e σ H Q
def JDb (f : Fm) (b : Nat) (X : Cx) (e : Expr) (t : UV) : Prop := ∀ k k', k + b ≤ k' → k' ≤ kMax → ∀ (ρ : En) (C : D → Prop), t ρ C → ∀ (H0 : Hp) (γ : List (V × D)) (σ : St) (H : Hp), Rep X.K (f.at_ k) H0 γ H σ ρ → ∀ Q : VK,
  (∀ d v H2, C d → Ext (f.at_ k') H H2 → Dp X.K (res H2 (own (f.at_ k') σ ρ)) v d → Q v H2) → wpE X e σ H Q
def JVb (f : Fm) (b : Nat) (X : Cx) (e : Expr) (t : UV) : Prop := ∀ k k', k + b ≤ k' → k' ≤ kMax → ∀ (ρ : En) (C : D → Prop), t ρ C → ∀ (H0 : Hp) (γ : List (V × D)) (σ : St) (H : Hp), Rep X.K (f.at_ k) H0 γ H σ ρ → ∀ Q : VK,
  (∀ d v H2, C d → Ext (f.at_ k') H H2 → Bo X.K (f.at_ k') H2 (res H2 (own (f.at_ k') σ ρ)) v d → Q v H2) → wpE X e σ H Q
def JTb (f : Fm) (b : Nat) (X : Cx) (e : Expr) (t : UT) : Prop := ∀ k k', k + b ≤ k' → k' ≤ kMax → ∀ (ρ : En) (C : Bool → Prop), t ρ C → ∀ (H0 : Hp) (γ : List (V × D)) (σ : St) (H : Hp), Rep X.K (f.at_ k) H0 γ H σ ρ → ∀ Q : Bool → Hp → Prop,
  (∀ z H2, C z → Ext (f.at_ k') H H2 → Q z H2) → wpT X e σ H Q
def JSb (f : Fm) (b : Nat) (X : Cx) (st : Stmt) (t : US) : Prop := ∀ k k', k + b ≤ k' → k' ≤ kMax → ∀ (ρ : En) (E : Ed), t E ρ → ∀ (H0 : Hp) (γ : List (V × D)) (σ : St) (H : Hp), Rep X.K (f.at_ k) H0 γ H σ ρ → ∀ Dn : Ends, EdOk X.K (f.at_ k') H0 γ E Dn → wpS X st Dn σ H
def JSsb (f : Fm) (b : Nat) (X : Cx) (st : List Stmt) (t : US) : Prop := ∀ k k', k + b ≤ k' → k' ≤ kMax → ∀ (ρ : En) (E : Ed), t E ρ → ∀ (H0 : Hp) (γ : List (V × D)) (σ : St) (H : Hp), Rep X.K (f.at_ k) H0 γ H σ ρ → ∀ Dn : Ends, EdOk X.K (f.at_ k') H0 γ E Dn → wpSs X st Dn σ H
section
variable {f : Fm} {k k' b b' : Nat} {H0 : Hp} {γ : List (V × D)} {K : PySem.W.Frag} {X : Cx} {e : Expr} {st : Stmt} {ss : List Stmt} {te : UE} {tv : UV} {tt : UT} {ts : US} {E : Ed} {Dn : Ends}
theorem EdOk.le (h : k ≤ k') (d : EdOk K (f.at_ k') H0 γ E Dn) : EdOk K (f.at_ k) H0 γ E Dn :=
  ⟨fun ρ σ H c r => d.nx ρ σ H c (r.to (f.mono h r.inv)), fun ρ σ H c r => d.bk ρ σ H c (r.to (f.mono h r.inv)), fun ρ σ H c r => d.ct ρ σ H c (r.to (f.mono h r.inv)),
    fun r v H c x i w => d.rt r v H c x (f.mono h i) w⟩
/-! what does not look at the town -/
theorem EdOk.exa {H : Hp} {hi : f.inv k H} (h : k ≤ k') (d : EdOk K (f.at_ k') H0 γ E Dn) : EdOk K (f.exa k H hi) H0 γ E Dn :=
  ⟨fun ρ σ H' c r => d.nx ρ σ H' c ⟨r.len, r.ext, f.mono h (f.back r.inv), r.sl, r.sep, r.gh, r.zz⟩, fun ρ σ H' c r => d.bk ρ σ H' c ⟨r.len, r.ext, f.mono h (f.back r.inv), r.sl, r.sep, r.gh, r.zz⟩,
    fun ρ σ H' c r => d.ct ρ σ H' c ⟨r.len, r.ext, f.mono h (f.back r.inv), r.sl, r.sep, r.gh, r.zz⟩, fun r v H' c x i w => d.rt r v H' c x (f.mono h (f.back i)) w⟩
theorem jeb_0 (h : ∀ τ : Tn, τ.free → JE τ X e te) : JEb f 0 X e te := fun k k' l _ ρ C c H0 γ σ H r Q q => h _ (fun _ => trivial) ρ C c H0 γ σ H r.exa Q fun a v H2 c2 e2 b2 => q a v H2 c2 (e2.exa l) b2
theorem jdb_0 (h : ∀ τ : Tn, τ.free → JD τ X e tv) : JDb f 0 X e tv := fun k k' l _ ρ C c H0 γ σ H r Q q => h _ (fun _ => trivial) ρ C c H0 γ σ H r.exa Q fun a v H2 c2 e2 b2 => q a v H2 c2 (e2.exa l) b2
theorem jvb_0 (h : ∀ τ : Tn, τ.free → JV τ X e tv) : JVb f 0 X e tv := fun k k' l _ ρ C c H0 γ σ H r Q q => h _ (fun _ => trivial) ρ C c H0 γ σ H r.exa Q fun a v H2 c2 e2 b2 => q a v H2 c2 (e2.exa l) b2
theorem jtb_0 (h : ∀ τ : Tn, τ.free → JT τ X e tt) : JTb f 0 X e tt := fun k k' l _ ρ C c H0 γ σ H r Q q => h _ (fun _ => trivial) ρ C c H0 γ σ H r.exa Q fun a H2 c2 e2 => q a H2 c2 (e2.exa l)
theorem jsb_0 (h : ∀ τ : Tn, τ.free → JS τ X st ts) : JSb f 0 X st ts := fun k k' l _ ρ E c H0 γ σ H r Dn d => h _ (fun _ => trivial) ρ E c H0 γ σ H r.exa Dn (d.exa l)
theorem jssb_0 (h : ∀ τ : Tn, τ.free → JSs τ X ss ts) : JSsb f 0 X ss ts := fun k k' l _ ρ E c H0 γ σ H r Dn d => h _ (fun _ => trivial) ρ E c H0 γ σ H r.exa Dn (d.exa l)
/-! blocks -/
variable {rest a1 a2 : List Stmt} {u : US} {b1 b2 : Nat} {pos : Pos}
theorem jssb_cons (h1 : JSb f b1 X st ts) (h2 : JSsb f b2 X rest u) : JSsb f (b1 + b2) X (st :: rest) (sSeq ts u) := fun k k' l m ρ E c H0 γ σ H r Dn d =>
  wpSs_of (pss_cons ps_w pss_w) (h1 k (k + b1) (Nat.le_refl _) (by omega) ρ _ c H0 γ σ H r _ ⟨fun ρ' σ' H' c r' => h2 (k + b1) k' (by omega) m ρ' E c H0 γ σ' H' r' Dn d, (d.le (show k + b1 ≤ k' by omega)).bk, (d.le (show k + b1 ≤ k' by omega)).ct, (d.le (show k + b1 ≤ k' by omega)).rt⟩)
theorem jssb_one (h1 : JSb f b X st ts) : JSsb f b X [st] ts := fun k k' l m ρ E c H0 γ σ H r Dn d => wpSs_of (pss_one ps_w) (h1 k k' l m ρ E c H0 γ σ H r Dn d)
theorem jsb_ret (he : JEb f b X e te) : JSb f b X (.Return (some e) pos) (sRet te) := fun k k' l m ρ E c H0 γ σ H r Dn d =>
  wpS_of (ps_ret pe_w) (he k k' l m ρ _ c H0 γ σ H r _ fun rs v H2 c e1 h => d.rt rs v H2 c ((r.up (by omega)).after e1).ext ((r.up (by omega)).after e1).inv (h.rt (r.up (by omega)) e1))
theorem jsb_if (hc : JTb f b X e tt) (ha : JSsb f b1 X a1 ts) (hb : JSsb f b2 X a2 u) : JSb f (b + (b1 + b2)) X (.If e a1 a2 pos) (sIf tt ts u) := fun k k' l m ρ E c H0 γ σ H r Dn d =>
  wpS_of (ps_if pt_w pss_w pss_w) (hc k (k + b) (Nat.le_refl _) (by omega) ρ _ c H0 γ σ H r _ fun z H2 c e1 => by
    have r1 := (r.up (show k ≤ k + b by omega)).after e1
    cases z with
    | true => exact iteT (ha (k + b) k' (by omega) m ρ E (c.1 rfl) H0 γ σ H2 r1 Dn d)
    | false => exact iteF (hb (k + b) k' (by omega) m ρ E (c.2 rfl) H0 γ σ H2 r1 Dn d))
variable {cp : List Str} {G : Gx} {N : List Str} {sc : Scope} {n : Nat} {x : Str} {p2 : Pos}
theorem jsb_set (S : Ok cp G N sc n X) (i : Nat) (he : JEb f b X e te) (hN : N[i]? = some x := by rfl) (hx : LocC cp sc x := by first | exact Or.inl rfl | exact Or.inr ⟨rfl, rfl⟩) (hs : swapsWith e (some (.Name x p2)) pos.line X.env = pure false := by rfl) : JSb f b X (.Assign [.Name x p2] e pos) (sSet i te) := fun k k' l m ρ E c H0 γ σ H r Dn d =>
  wpS_of (ps_set (i := i) (by rw [S.eN]; exact S.nd) (by rw [S.eN]; exact hN) (loc_of S hx) pe_w hs (fn_of_loc S hx)) (he k k' l m ρ _ c H0 γ σ H r _ fun rs v H2 c e1 h => d.nx _ _ H2 c ((r.up (by omega)).set e1 h))
end
end Pu
namespace Pu
open PySem PySem.Spec PyProof.Rows L2
/-! ### budgets: expressions -/
def JDsb (f : Fm) (b : Nat) (X : Cx) (es : List Expr) (t : UL) : Prop := ∀ k k', k + b ≤ k' → k' ≤ kMax → ∀ (ρ : En) (C : List D → Prop), t ρ C → ∀ (H0 : Hp) (γ : List (V × D)) (σ : St) (H : Hp), Rep X.K (f.at_ k) H0 γ H σ ρ → ∀ Q : List V → Hp → Prop,
  (∀ ds vs H2, ds.length = es.length → C ds → Ext (f.at_ k') H H2 → DpAll X.K (res H2 (own (f.at_ k') σ ρ)) vs ds → Q vs H2) → wpA X es σ H Q
def JWb (f : Fm) (b : Nat) (X : Cx) (e : Expr) (t : UT) : Prop := ∀ k k', k + b ≤ k' → k' ≤ kMax → ∀ (ρ : En) (C : Bool → Prop), t ρ C → ∀ (H0 : Hp) (γ : List (V × D)) (σ : St) (H : Hp), Rep X.K (f.at_ k) H0 γ H σ ρ → ∀ Q : Bool → Hp → Prop,
  (∀ z H2, C z → Ext (f.at_ k') H H2 → Q z H2) → wpW X e σ H Q
section
variable {fm : Fm} {b1 b2 b3 : Nat} {G : Gx} {cp : List Str} {N : List Str} {sc : Scope} {n : Nat} {X : Cx} {e a b : Expr} {es rest : List Expr} {t u : UV} {te : UE} {tt tu : UT} {pos : Pos}
theorem jvb_d (h : JDb fm b1 X e t) : JVb fm b1 X e t := fun k k' l m ρ C c H0 γ σ H r Q q => h k k' l m ρ C c H0 γ σ H r Q fun d v H2 c e b => q d v H2 c e (bo_of res_own_ad b)
theorem jeb_d (h : JDb fm b1 X e t) : JEb fm b1 X e (eD t) := fun k k' l m ρ C c H0 γ σ H r Q q => h k k' l m ρ _ c H0 γ σ H r Q fun d v H2 c e b => q (.dat d) v H2 c e b
theorem jdb_e (h : JEb fm b1 X e te) : JDb fm b1 X e (dE te) := fun k k' l m ρ C c H0 γ σ H r Q q => h k k' l m ρ _ c H0 γ σ H r Q fun rs v H2 c e b => by
  obtain ⟨d, cd, hd⟩ := b.cold (r.up (show k ≤ k' by omega)) c
  exact q d v H2 cd e hd
theorem jvb_e (h : JEb fm b1 X e te) : JVb fm b1 X e (dE te) := jvb_d (jdb_e h)
theorem jdsb_0 {ts : UL} (h : ∀ τ : Tn, τ.free → JDs τ X es ts) : JDsb fm 0 X es ts := fun k k' l _ ρ C c H0 γ σ H r Q q => h _ (fun _ => trivial) ρ C c H0 γ σ H r.exa Q fun ds vs H2 hl c2 e2 b2 => q ds vs H2 hl c2 (e2.exa l) b2
theorem jdsb_cons {ts : UL} (h : JDb fm b1 X e t) (hs : JDsb fm b2 X es ts) (hst : starEach (e :: es) X.env = (false, eval e X.env) :: starEach es X.env := by rfl) : JDsb fm (b1 + b2) X (e :: es) (lCons t ts) := fun k k' l m ρ C c H0 γ σ H r Q q =>
  wpA_of (pa_cons pe_w pa_w hst) (h k (k + b1) (Nat.le_refl _) (by omega) ρ _ c H0 γ σ H r _ fun d v H2 c e b => hs (k + b1) k' (by omega) m ρ _ c H0 γ σ H2 ((r.up (by omega)).after e) _ fun ds vs H3 hl c e2 b2 =>
    q (d :: ds) (v :: vs) H3 (by simp [hl]) c ((e.up (fm.mono (by omega) r.inv) (by omega)).trans e2) (.cons (dp_after (τ := fm.at_ k') e2 b) b2))
theorem jdb_tup {ts : UL} {x1 : Nat} (h : JDsb fm b1 X es ts) (hl : es.length ≤ 1000 := by decide) : JDb fm b1 X (.Tuple es x1 pos) (dTup ts) := fun k k' l m ρ C c H0 γ σ H r Q q =>
  wpE_of (pe_tupP pa_w) (h k k' l m ρ _ c H0 γ σ H r _ fun ds vs H2 el c e b => ⟨by rw [dpAll_len b, el]; exact small_line (by omega), fun p o ho hp =>
    q _ _ _ c (e.trans (.new hp)) (.tup (.inl (.inr ⟨o, res_put (((r.up (by omega)).after e).notOwn hp) upd_same ho⟩)) (dpAll_after (.new hp) b))⟩)
theorem jdb_op {op : Operator} {r : R2} {f : D → D → (D → Prop) → Prop} (ho : OpR X (binaryOp op) r) (hf : Op2 X r f) (ha : JVb fm b1 X a t) (hb : JVb fm b2 X b u) : JDb fm (b1 + b2) X (.BinOp a op b pos) (d2 f t u) := fun k k' l m ρ C c H0 γ σ H r Q q =>
  wpE_of (pe_op ho pe_w pe_w) (ha k (k + b1) (Nat.le_refl _) (by omega) ρ _ c H0 γ σ H r _ fun d1 v1 H2 c e w1 => hb (k + b1) k' (by omega) m ρ _ c H0 γ σ H2 ((r.up (by omega)).after e) _ fun d2 v2 H3 c e2 w2 =>
    have e' : Ext (fm.at_ k') H H2 := e.up (fm.mono (by omega) r.inv) (by omega)
    have r' : Rep X.K (fm.at_ k') H0 γ H σ ρ := r.up (by omega)
    hf _ _ _ _ _ _ _ _ _ _ _ ((r'.after e').after e2) (Bo.after (τ := fm.at_ k') e2 w1) w2 c Q fun d v H4 c e4 h => q d v H4 c ((e'.trans e2).trans e4) h)
theorem jtb_cmp {op : CmpOp} {r : R2} {f : D → D → (Bool → Prop) → Prop} (ho : OpR X (compareOp op) r) (hf : Cm2 X r f) (ha : JVb fm b1 X a t) (hb : JVb fm b2 X b u) (hm : behindInMarks op b = false) : JTb fm (b1 + b2) X (.Compare a [op] [b] pos) (Pu.b2 f t u) := fun k k' l m ρ C c H0 γ σ H r Q q =>
  wpT_of (pt_cmpR ho pe_w pe_w hm) (ha k (k + b1) (Nat.le_refl _) (by omega) ρ _ c H0 γ σ H r _ fun d1 v1 H2 c e w1 => hb (k + b1) k' (by omega) m ρ _ c H0 γ σ H2 ((r.up (by omega)).after e) _ fun d2 v2 H3 c e2 w2 =>
    have e' : Ext (fm.at_ k') H H2 := e.up (fm.mono (by omega) r.inv) (by omega)
    have r' : Rep X.K (fm.at_ k') H0 γ H σ ρ := r.up (by omega)
    hf _ _ _ _ _ _ _ _ _ _ _ ((r'.after e').after e2) (Bo.after (τ := fm.at_ k') e2 w1) w2 c _ fun z c => ⟨z, rfl, q z H3 c (e'.trans e2)⟩)
theorem jwb_and1 (ha : JTb fm b1 X a tt) : JWb fm b1 X (.BoolOp .And [a] pos) tt := fun k k' l m ρ C c H0 γ σ H r Q q => wpW_of (pw_and1 pt_w) (ha k k' l m ρ C c H0 γ σ H r Q q)
theorem jwb_or1 (ha : JTb fm b1 X a tt) : JWb fm b1 X (.BoolOp .Or [a] pos) tt := fun k k' l m ρ C c H0 γ σ H r Q q => wpW_of (pw_or1 pt_w) (ha k k' l m ρ C c H0 γ σ H r Q q)
theorem jwb_and (ha : JTb fm b1 X a tt) (hb : JWb fm b2 X (.BoolOp .And (b :: rest) pos) tu) : JWb fm (b1 + b2) X (.BoolOp .And (a :: b :: rest) pos) (bAnd tt tu) := fun k k' l m ρ C c H0 γ σ H r Q q =>
  wpW_of (pw_and pt_w pw_w) (ha k (k + b1) (Nat.le_refl _) (by omega) ρ _ c H0 γ σ H r _ fun z H2 c e => by
    have e' : Ext (fm.at_ k') H H2 := e.up (fm.mono (by omega) r.inv) (by omega)
    cases z with
    | true => exact iteT (hb (k + b1) k' (by omega) m ρ C (c.1 rfl) H0 γ σ H2 ((r.up (by omega)).after e) Q fun b H3 c e2 => q b H3 c (e'.trans e2))
    | false => exact iteF (q _ H2 (c.2 rfl) e'))
theorem jwb_or (ha : JTb fm b1 X a tt) (hb : JWb fm b2 X (.BoolOp .Or (b :: rest) pos) tu) : JWb fm (b1 + b2) X (.BoolOp .Or (a :: b :: rest) pos) (bOr tt tu) := fun k k' l m ρ C c H0 γ σ H r Q q =>
  wpW_of (pw_or pt_w pw_w) (ha k (k + b1) (Nat.le_refl _) (by omega) ρ _ c H0 γ σ H r _ fun z H2 c e => by
    have e' : Ext (fm.at_ k') H H2 := e.up (fm.mono (by omega) r.inv) (by omega)
    cases z with
    | true => exact iteT (q _ H2 (c.1 rfl) e')
    | false => exact iteF (hb (k + b1) k' (by omega) m ρ C (c.2 rfl) H0 γ σ H2 ((r.up (by omega)).after e) Q fun b H3 c e2 => q b H3 c (e'.trans e2)))
theorem jtb_w (h : JWb fm b1 X a tt) : JTb fm b1 X a tt := fun k k' l m ρ C c H0 γ σ H r Q q => by
  unfold wpT
  exact fun pins s I => pw_w.run _ pins s σ H Q I (h k k' l m ρ C c H0 γ σ H r Q q)
theorem jtb_not (ha : JTb fm b1 X a tt) : JTb fm b1 X (.UnaryOp .Not a pos) (bNot tt) := fun k k' l m ρ C c H0 γ σ H r Q q => wpT_of (pt_not pt_w) (ha k k' l m ρ _ c H0 γ σ H r _ fun z H2 c e => q _ H2 c e)
end
end Pu
namespace Pu
open PySem PySem.Spec PyProof.Rows L2
/-! ### budgets: calls -/
def JAb (f : Fm) (b : Nat) (X : Cx) (es : List Expr) (t : UA) : Prop := ∀ k k', k + b ≤ k' → k' ≤ kMax → ∀ (ρ : En) (C : List Ar → Prop), t ρ C → ∀ (H0 : Hp) (γ : List (V × D)) (σ : St) (H : Hp), Rep X.K (f.at_ k) H0 γ H σ ρ → ∀ Q : List V → Hp → Prop,
  (∀ as vs H2, C as → Ext (f.at_ k') H H2 → ArsOk X.K (f.at_ k') H2 vs as → vs.length = es.length → Q vs H2) → wpA X es σ H Q
/-- the promise of a def that draws -/
def spB (G : Gx) (f : Fm) (b : Nat) (S : Sf) : Sp := fun vs H Q _ => ∃ k k' as C, k + b ≤ k' ∧ k' ≤ kMax ∧ ArsOk G.K (f.at_ k) H vs as ∧ f.inv k H ∧ S as C ∧ ∀ r v H', r.lf = true → C r → Ext (f.at_ k') H H' → RtV G.K (f.at_ k') H H' v r → Q v H'
structure FnB (G : Gx) (f : Fm) (b k : Nat) (x : Str) (ps : List Str) (S : Sf) : Prop where
  ex : ∃ (a : Addr) (fd : FuncData), FnOk G.P G.w G.K G.mg G.base CX0 k a fd ps (spB G f b S) ∧ G.mg x = some (.ref a) ∧ PySem.W.keepIn G.K (.ref a) = true ∧ Binds G.K fd ps []
def spA (G : Gx) (S : Sf) : Sp := fun vs H Q E => ∃ τ : Tn, τ.free ∧ spD G τ S vs H Q E
structure FnA (G : Gx) (k : Nat) (x : Str) (ps : List Str) (S : Sf) : Prop where
  ex : ∃ (f : Addr) (fd : FuncData), (∀ τ : Tn, τ.free → FnOk G.P G.w G.K G.mg G.base CX0 k f fd ps (spD G τ S)) ∧ G.mg x = some (.ref f) ∧ PySem.W.keepIn G.K (.ref f) = true ∧ Binds G.K fd ps []
section
variable {fm : Fm} {b1 b2 b3 : Nat} {G : Gx} {cp : List Str} {N : List Str} {sc : Scope} {n j : Nat} {X : Cx} {e a b : Expr} {es rest : List Expr} {t u : UV} {te : UE} {ta : UA} {tt tu : UT} {pos p : Pos} {x : Str} {ps : List Str} {S : Sf}
theorem jab_nil : JAb fm 0 X [] aNil := fun k k' l m ρ C c H0 γ σ H r Q q => wpA_of pa_nil (q [] [] H c .refl .nil rfl)
theorem jab_cons (h : JVb fm b1 X e t) (hs : JAb fm b2 X es ta) (hst : starEach (e :: es) X.env = (false, eval e X.env) :: starEach es X.env := by rfl) : JAb fm (b1 + b2) X (e :: es) (aCons t ta) := fun k k' l m ρ C c H0 γ σ H r Q q =>
  wpA_of (pa_cons pe_w pa_w hst) (h k (k + b1) (Nat.le_refl _) (by omega) ρ _ c H0 γ σ H r _ fun d v H2 c e b => hs (k + b1) k' (by omega) m ρ _ c H0 γ σ H2 ((r.up (by omega)).after e) _ fun as vs H3 c e2 b2 hl =>
    q (.dat d :: as) (v :: vs) H3 c ((e.up (fm.mono (by omega) r.inv) (by omega)).trans e2) (.cons (arOk_after (τ := fm.at_ k') e2 (show ArOk X.K (fm.at_ k') H2 v (.dat d) from Bo.dp (τ := fm.at_ k') res_own_ad b)) b2) (by simp [hl]))
theorem jab_town (O : Ok cp G N sc n X) (i : Nat) (hs : JAb fm b1 X es ta) (hN : N[i]? = some x := by rfl) (hv : Vis sc x := by first | exact Or.inl rfl | exact Or.inr (Or.inl rfl) | exact Or.inr (Or.inr rfl)) (hd : (x == ("__debug__" : Str)) = false := by decide) (hcd : (x == ("__classdict__" : Str)) = false := by decide)
    (hst : starEach (.Name x pos :: es) X.env = (false, eval (.Name x pos) X.env) :: starEach es X.env := by rfl) : JAb fm b1 X (.Name x pos :: es) (aTown i ta) := fun k k' l m ρ C c H0 γ σ H r Q q => by
  refine wpA_of (pa_cons (pe_var (i := i) (by rw [O.eN]; exact hN) (by rw [O.es]; exact hv) hd hcd) pa_w hst) ?_
  unfold aTown at c
  split at c
  · rename_i hi
    exact ⟨fm.val, r.sl i _ hi, hs k k' l m ρ _ c H0 γ σ H r _ fun as vs H3 c e2 b2 hl => q (.town :: as) (fm.val :: vs) H3 c e2 (.cons rfl b2) (by simp [hl])⟩
  · exact c.elim
/-- a def that draws -/
theorem jeb_call (O : Ok cp G N sc n X) (F : FnB G fm b2 j x ps S) (ha : JAb fm b1 X (e :: es) ta) (hj : j ≤ n := by decide) (hg : sc.names.lookup x = some .globalImplicit := by rfl) (hdb : (x == ("__debug__" : Str)) = false := by decide)
    (he : starEach (e :: es) X.env = (false, eval e X.env) :: starEach es X.env := by rfl) (hpl : (backTo pos (starEach es X.env)).any (·.1) = false := by rfl) : JEb fm (b1 + b2) X (.Call (.Name x p) (e :: es) [] pos) (eCall S ta) := by
  obtain ⟨f, fd, F, hm, hk, hb⟩ := F.ex
  intro k k' l m ρ C c H0 γ σ H r Q q
  refine wpE_of (pe_call (CX := CX0) (k := j) (sp := spB G fm b2 S) (E := E0) (dvs := []) (ds := []) (by rw [O.eP, O.ew, O.eK, O.em, O.eb]; exact F) (O.room.mono hj) (by show X.env.scope.names.lookup x = _; rw [O.es]; exact hg) (by rw [O.em]; exact hm) (by rw [O.eK]; exact hk) (by rw [O.eK]; exact hb) .nil pass0 pa_w hdb he hpl) ?_
  refine ha k (k + b1) (Nat.le_refl _) (by omega) ρ _ c H0 γ σ H r _ fun as vs H2 c e1 h2 _ => ?_
  rw [List.append_nil]
  have e' : Ext (fm.at_ k') H H2 := e1.up (fm.mono (by omega) r.inv) (by omega)
  refine ⟨k + b1, k', as, C, by omega, m, by rw [← O.eK]; exact h2, ((r.up (by omega)).after e1).inv, c, fun rs v H' l c e2 h => q rs v H' c (e'.trans e2) ?_⟩
  rw [← O.eK] at h
  exact RtV.rs (r.up (by omega)) e' e2 l h
/-- a def that does not draw: its promise, whatever the town -/
theorem fnA_of {f : Addr} {fd : FuncData} (h : ∀ τ : Tn, τ.free → FnOk G.P G.w G.K G.mg G.base CX0 j f fd ps (spD G τ S)) : FnOk G.P G.w G.K G.mg G.base CX0 j f fd ps (spA G S) :=
  ⟨fun vs H Q E ⟨τ, hτ, w⟩ => (h τ hτ).len vs H Q E w, fun A outer s H args us vs Q E hr e0 hb r ⟨τ, hτ, w⟩ => (h τ hτ).run A outer s H args us vs Q E hr e0 hb r w⟩
theorem FnA.d (F : FnA G j x ps S) (τ : Tn) (hτ : τ.free) : FnD G τ j x ps S := by
  obtain ⟨f, fd, F, hm, hk, hb⟩ := F.ex
  exact ⟨⟨f, fd, F τ hτ, hm, hk, hb⟩⟩
theorem jeb_callF (O : Ok cp G N sc n X) (F : FnA G j x ps S) (ha : JAb fm b1 X (e :: es) ta) (hj : j ≤ n := by decide) (hg : sc.names.lookup x = some .globalImplicit := by rfl) (hdb : (x == ("__debug__" : Str)) = false := by decide)
    (he : starEach (e :: es) X.env = (false, eval e X.env) :: starEach es X.env := by rfl) (hpl : (backTo pos (starEach es X.env)).any (·.1) = false := by rfl) : JEb fm b1 X (.Call (.Name x p) (e :: es) [] pos) (eCall S ta) := by
  obtain ⟨f, fd, F, hm, hk, hb⟩ := F.ex
  intro k k' l m ρ C c H0 γ σ H r Q q
  refine wpE_of (pe_call (CX := CX0) (k := j) (sp := spA G S) (E := E0) (dvs := []) (ds := []) (by rw [O.eP, O.ew, O.eK, O.em, O.eb]; exact fnA_of F) (O.room.mono hj) (by show X.env.scope.names.lookup x = _; rw [O.es]; exact hg) (by rw [O.em]; exact hm) (by rw [O.eK]; exact hk) (by rw [O.eK]; exact hb) .nil pass0 pa_w hdb he hpl) ?_
  refine ha k k' l m ρ _ c H0 γ σ H r _ fun as vs H2 c e1 h2 _ => ?_
  rw [List.append_nil]
  have r' : Rep X.K (fm.at_ k') H0 γ H σ ρ := r.up (by omega)
  have r2 := r'.after e1
  refine ⟨fm.exa k' H2 r2.inv, fun _ => trivial, as, C, by rw [← O.eK]; exact h2, ⟨fun _ _ => rfl, fun _ _ h _ => h⟩, c, fun rs v H' l c e2 h => q rs v H' c (e1.trans (e2.exa (Nat.le_refl _))) ?_⟩
  rw [← O.eK] at h
  exact RtV.rs (τ := fm.at_ k') r' e1 (e2.exa (Nat.le_refl _)) l h
/-- a def's own text -/
theorem fnB_of {st : Stmt} {f : Addr} {fd : FuncData} {k : Nat} {t : US} (F : Dn G x st [] [] f fd) (S : FnScope N ps (defScope st))
    (hb : ∀ (kV doc pm : Value) (an : Option Addr) (cdv ct : Value) (us : List Value), us.length = ps.length → bindArgs (PySem.W.fnOf x x (defArgs st) (defBody st) (defScope st) .none kV doc pm an cdv ct) ⟨us, []⟩ = pure (ps.zip us))
    (h : ∀ X, Ok [] G N (defScope st) k X → JSsb fm b1 X (defBody st) t) : FnB G fm b1 (k + 1) x ps (sfOf N ps.length t) := by
  refine ⟨⟨f, fd, ?_, F.gl, F.fn.kp, F.fn.bindsN hb⟩⟩
  obtain ⟨oc, od, dV, kV, doc, pm, an, cdv, ct, osl, rfl, lk, hcd, _, _⟩ := F.fn.ex
  refine fn_of lk hcd S (fun vs H Q E h => ?_) (fun A outer s H vs Q E hr h' => ⟨wpSs (cxOf CX0 G.P G.w G.K G.mg G.base N x (defScope st) f cdv A outer s H E).nox (defBody st), PSs.nox pss_w, ?_⟩)
  · obtain ⟨_, _, as, C, _, _, h1, _, h2, _⟩ := h
    exact (Paired.length h1).trans h2.1
  · obtain ⟨i, i', as, C, l, m, h1, hi, h2, hq⟩ := h'
    have O : Ok [] G N (defScope st) k (cxOf CX0 G.P G.w G.K G.mg G.base N x (defScope st) f cdv A outer s H E).nox := ⟨rfl, rfl, rfl, rfl, rfl, rfl, S.nd, rfl, S.kind, rfl, hr, fun _ _ _ => rfl, PassesOwn.never⟩
    refine h _ O i i' l m _ _ h2.2 H [] _ H (rep_start (τ := fm.at_ i) trivial hi h1) _ ⟨fun ρ σ H' c r => hq (.dat .none) .non H' rfl c ⟨r.ext, fun _ => r.inv⟩ .non, fun ρ σ H' c r => c.elim, fun ρ σ H' c r => c.elim, fun r v H' c e i z => hq r v H' c.1 c.2 ⟨e, fun _ => i⟩ z⟩
end
end Pu
namespace Pu
open PySem PySem.Spec PyProof.Rows L2
/-! ### budgets: loops -/
def JIb (f : Fm) (b : Nat) (X : Cx) (tg iter : Expr) (t : UL) : Prop := ∀ k k', k + b ≤ k' → k' ≤ kMax → ∀ (ρ : En) (C : List D → Prop), t ρ C → ∀ (H0 : Hp) (γ : List (V × D)) (σ : St) (H : Hp), Rep X.K (f.at_ k) H0 γ H σ ρ → ∀ R : It → Hp → Prop,
  (∀ J γ' ds H2, C ds → Ext (f.at_ k') H H2 → (∀ p ∈ γ', Dp X.K (res H2 (own (f.at_ k') σ ρ)) p.1 p.2) → ItOk X.K (f.at_ k') J γ' ds → ds.length ≤ sizeLine → R J H2) → wpI X tg iter σ H R
/-- a while of at most m rounds -/
def sWhileB (m : Nat) (tt : UT) (tb : US) : US := fun E ρ => ∃ n, n ≤ m ∧ whC tt tb E n ρ
section
variable {fm : Fm} {b0 b1 b2 : Nat} {G : Gx} {cp : List Str} {N : List Str} {sc : Scope} {n : Nat} {X : Cx} {e tg iter : Expr} {body : List Stmt} {g : UG} {t : US} {tt : UT} {ti : UL} {pos : Pos}
theorem jib_0 (h : ∀ τ : Tn, τ.free → JI τ X tg iter ti) : JIb fm 0 X tg iter ti := fun k k' l _ ρ C c H0 γ σ H r R q => h _ (fun _ => trivial) ρ C c H0 γ σ H r.exa R fun J γ' ds H2 c2 e2 g2 o2 l2 => q J γ' ds H2 c2 (e2.exa l) g2 ⟨o2.go, o2.yld, o2.stop⟩ l2
theorem jsb_for (S : Ok cp G N sc n X) (hi : JIb fm b0 X tg iter ti) (hg : ∀ τ : Tn, τ.free → JG τ X tg g) (hb : JSsb fm b1 X body t) (hs : ∀ x, foldedSetIterable iter X.env x = pure x := by intro _; rfl) : JSb fm (b0 + sizeLine * b1) X (.For tg iter body [] pos) (sFor ti g t) := fun k k' l m ρ E c H0 γ σ H r Dn d => by
  refine wpS_of (ps_for S.po S.calm pi_w pg_w pss_w hs) (hi k (k + b0) (Nat.le_refl _) (by omega) ρ _ c H0 γ σ H r _ fun J γ' ds H2 c e1 hγ hJ hsz => ?_)
  have r2 := (r.up (show k ≤ k + b0 by omega)).after e1
  have R2 : Rep X.K (fm.at_ (k + b0)) H0 (γ' ++ γ) H2 σ ρ := ⟨r2.len, r2.ext, r2.inv, r2.sl, r2.sep, fun p hp => (List.mem_append.mp hp).elim (hγ p) (r2.gh p), r2.zz⟩
  refine ⟨fun i m σ' H' => m = ds.length - i ∧ i ≤ ds.length ∧ ∃ ρ', Rep X.K (fm.at_ (k + b0 + i * b1)) H0 (γ' ++ γ) H' σ' ρ' ∧ forC g t E (ds.drop i) ρ', ⟨_, rfl, Nat.zero_le _, ρ, by rw [Nat.zero_mul]; exact R2, c⟩, fun i m σ' H' ⟨hm, hle, ρ', r', c⟩ => ?_⟩
  have bo : ∀ p ∈ γ', Bo X.K (fm.at_ (k + b0)) H' (res H' (own (fm.at_ (k + b0)) σ' ρ')) p.1 p.2 := fun p hp => bo_of res_own_ad (r'.gh p (List.mem_append_left _ hp))
  have cap : ∀ j, j ≤ ds.length → k + b0 + j * b1 ≤ k' := fun j hj => by
    have : j * b1 ≤ sizeLine * b1 := Nat.mul_le_mul_right _ (Nat.le_trans hj hsz)
    omega
  have dl := fun j (hj : j ≤ ds.length) => d.le (cap j hj)
  by_cases hlt : i < ds.length
  · rw [List.drop_eq_getElem_cons hlt] at c
    refine .inr ⟨hJ.go H' _ bo i hlt, fun σ2 H3 => ∃ ρ2, Rep X.K (fm.at_ (k + b0 + (i + 1) * b1)) H0 (γ' ++ γ) H3 σ2 ρ2 ∧ forC g t E (ds.drop (i + 1)) ρ2, fun σ2 H3 h => ⟨ds.length - (i + 1), by omega, rfl, hlt, h⟩, fun x H4 hy => ?_⟩
    obtain ⟨sm, hdp⟩ := hJ.yld H' _ bo (fun a ha => r'.notOwn ha) i _ (List.getElem?_eq_getElem hlt) x H4 hy
    refine hg (fm.at_ (k + b0 + i * b1)) (fun _ => trivial) _ ρ' _ c H0 (γ' ++ γ) σ' H4 x (r'.after (.of_same sm)) hdp _ fun ρ2 σ2 c r3 _ => ?_
    have ei : k + b0 + i * b1 + b1 ≤ k + b0 + (i + 1) * b1 := by rw [Nat.succ_mul]; omega
    refine hb (k + b0 + i * b1) (k + b0 + (i + 1) * b1) ei (Nat.le_trans (cap (i + 1) hlt) ‹_›) ρ2 _ c H0 (γ' ++ γ) σ2 H4 r3 _ ⟨fun ρ3 σ3 H5 c r4 => ⟨ρ3, r4, c⟩, fun ρ3 σ3 H5 c r4 => (dl (i + 1) hlt).nx ρ3 σ3 H5 c r4.less, fun ρ3 σ3 H5 c r4 => ⟨ρ3, r4, c⟩, (dl (i + 1) hlt).rt⟩
  · rw [List.drop_of_length_le (by omega)] at c
    exact .inl ⟨hJ.stop H' _ bo i (by omega), (dl i hle).nx ρ' σ' H' c r'.less⟩
theorem jsb_while (mx : Nat) (S : Ok cp G N sc n X) (hc : JTb fm b0 X e tt) (hb : JSsb fm b1 X body t) : JSb fm (mx * (b0 + b1)) X (.While e body [] pos) (sWhileB mx tt t) := fun k k' l mm ρ E c H0 γ σ H r Dn d => by
  obtain ⟨w, hw, c⟩ := c
  have cap : ∀ j, j ≤ mx → k + j * (b0 + b1) ≤ k' := fun j hj => by
    have : j * (b0 + b1) ≤ mx * (b0 + b1) := Nat.mul_le_mul_right _ hj
    omega
  refine wpS_of (ps_while S.po pt_w pss_w) ⟨fun m σ' H' => m ≤ mx ∧ ∃ ρ', Rep X.K (fm.at_ (k + (mx - m) * (b0 + b1))) H0 γ H' σ' ρ' ∧ whC tt t E m ρ', ⟨w, hw, ρ, r.up (Nat.le_add_right _ _), c⟩, fun m σ' H' ⟨hm, ρ', r', c⟩ => ?_⟩
  cases m with
  | zero => exact c.elim
  | succ m =>
    have e2 : (mx - m) * (b0 + b1) = (mx - (m + 1)) * (b0 + b1) + (b0 + b1) := by
      rw [show mx - m = mx - (m + 1) + 1 by omega, Nat.succ_mul]
    have c1 := cap (mx - m) (by omega)
    generalize (mx - (m + 1)) * (b0 + b1) = A at r' e2
    generalize hB : (mx - m) * (b0 + b1) = B at e2 c1
    refine hc (k + A) (k + A + b0) (Nat.le_refl _) (by omega) ρ' _ c H0 γ σ' H' r' _ fun z H2 c e1 => ?_
    have r2 := (r'.up (show k + A ≤ k + A + b0 by omega)).after e1
    cases z with
    | false => exact iteF ((d.le (show k + A + b0 ≤ k' by omega)).nx ρ' σ' H2 (c.2 rfl) r2)
    | true =>
      refine iteT ⟨fun σ2 H3 => ∃ ρ2, Rep X.K (fm.at_ (k + B)) H0 γ H3 σ2 ρ2 ∧ whC tt t E m ρ2, fun σ2 H3 h => ⟨m, Nat.lt_succ_self m, by omega, by rw [hB]; exact h⟩, ?_⟩
      exact hb (k + A + b0) (k + B) (by omega) (by omega) ρ' _ (c.1 rfl) H0 γ σ' H2 r2 _ ⟨fun ρ2 σ2 H3 c r2 => ⟨ρ2, r2, c⟩, (d.le (show k + B ≤ k' by omega)).nx, fun ρ2 σ2 H3 c r2 => ⟨ρ2, r2, c⟩, (d.le (show k + B ≤ k' by omega)).rt⟩
end
end Pu
namespace Pu
open PySem PySem.Spec PyProof.Rows L2
/-! ### budgets: lists, choices, items -/
section
variable {fm : Fm} {b0 b1 b2 : Nat} {G : Gx} {cp : List Str} {N : List Str} {sc : Scope} {n : Nat} {X : Cx} {e a b cc : Expr} {es : List Expr} {t u : UV} {te ue : UE} {tt : UT} {pos : Pos}
theorem jeb_lst {ts : UL} (h : JDsb fm b1 X es ts) (hl : es.length ≤ 1000 := by decide) : JEb fm b1 X (.List es pos) (eLst ts) := fun k k' l m ρ C c H0 γ σ H r Q q =>
  wpE_of (pe_lst pa_w) (h k k' l m ρ _ c H0 γ σ H r _ fun ds vs H2 el c e b => ⟨by rw [dpAll_len b, el]; exact small_line (by omega), fun p hp =>
    q _ _ _ c (e.trans (.new hp)) ⟨p, vs, rfl, e.fresh (r.up (show k ≤ k' by omega)).inv hp, upd_same, dpAll_same (res_mono fun a o n ea => by
      have hne : a ≠ p := ne_of_none ea hp
      exact ⟨fun z => z.elim n hne, by rw [upd_ne hne]; exact ea⟩) _ _ b⟩⟩)
theorem jdb_if (hc : JTb fm b0 X cc tt) (ha : JDb fm b1 X a t) (hb : JDb fm b2 X b u) : JDb fm (b0 + (b1 + b2)) X (.IfExp cc a b pos) (dIf tt t u) := fun k k' l m ρ C c0 H0 γ σ H r Q q =>
  wpE_of (pe_ifExp pt_w pe_w pe_w) (hc k (k + b0) (Nat.le_refl _) (by omega) ρ _ c0 H0 γ σ H r _ fun z H2 c e => by
    have e' : Ext (fm.at_ k') H H2 := e.up (fm.mono (by omega) r.inv) (by omega)
    have r1 := (r.up (show k ≤ k + b0 by omega)).after e
    cases z with
    | true => exact iteT (ha (k + b0) k' (by omega) m ρ C (c.1 rfl) H0 γ σ H2 r1 Q fun d v H3 c e2 h => q d v H3 c (e'.trans e2) h)
    | false => exact iteF (hb (k + b0) k' (by omega) m ρ C (c.2 rfl) H0 γ σ H2 r1 Q fun d v H3 c e2 h => q d v H3 c (e'.trans e2) h))
theorem jeb_if (hc : JTb fm b0 X cc tt) (ha : JEb fm b1 X a te) (hb : JEb fm b2 X b ue) : JEb fm (b0 + (b1 + b2)) X (.IfExp cc a b pos) (eIf tt te ue) := fun k k' l m ρ C c0 H0 γ σ H r Q q =>
  wpE_of (pe_ifExp pt_w pe_w pe_w) (hc k (k + b0) (Nat.le_refl _) (by omega) ρ _ c0 H0 γ σ H r _ fun z H2 c e => by
    have e' : Ext (fm.at_ k') H H2 := e.up (fm.mono (by omega) r.inv) (by omega)
    have r0 : Rep X.K (fm.at_ k') H0 γ H σ ρ := r.up (by omega)
    have r1 := (r.up (show k ≤ k + b0 by omega)).after e
    have fin : ∀ rs v H3, C rs → Ext (fm.at_ k') H2 H3 → RsOk X.K (fm.at_ k') H2 H3 σ ρ v rs → Q v H3 := fun rs v H3 c e2 h => q rs v H3 c (e'.trans e2) (by
      cases rs with
      | dat d => exact h
      | lst ds =>
        obtain ⟨p, vs, h1, h2, h3⟩ := h
        exact ⟨p, vs, h1, e'.fresh r0.inv h2, h3⟩
      | dic ds =>
        obtain ⟨p, vs, h1, h2, h3⟩ := h
        exact ⟨p, vs, h1, e'.fresh r0.inv h2, h3⟩
      | th x =>
        obtain ⟨p, vs, h1, h2, h3⟩ := h
        exact ⟨p, vs, h1, e'.fresh r0.inv h2, h3⟩
      | dll m =>
        obtain ⟨p, vs, h1, h2, h3, h4, h5⟩ := h
        exact ⟨p, vs, h1, e'.fresh r0.inv h2, h3, h4, fun q hq => let ⟨L, e1, ne, e2⟩ := h5 q hq; ⟨L, e1, ne, e'.fresh r0.inv e2⟩⟩)
    cases z with
    | true => exact iteT (ha (k + b0) k' (by omega) m ρ C (c.1 rfl) H0 γ σ H2 r1 Q fin)
    | false => exact iteF (hb (k + b0) k' (by omega) m ρ C (c.2 rfl) H0 γ σ H2 r1 Q fin))
theorem jdb_ix (ha : JVb fm b1 X a t) (hb : JVb fm b2 X b u) (hs : PlainIx b := by exact fun _ _ => rfl) : JDb fm (b1 + b2) X (.Subscript a b pos) (d2 fIx t u) := fun k k' l m ρ C c H0 γ σ H r Q q =>
  wpE_of (pe_ix ix_seq pe_w pe_w hs) (ha k (k + b1) (Nat.le_refl _) (by omega) ρ _ c H0 γ σ H r _ fun d1 v1 H2 c e w1 => hb (k + b1) k' (by omega) m ρ _ c H0 γ σ H2 ((r.up (by omega)).after e) _ fun d2 v2 H3 c e2 w2 => by
    have e' : Ext (fm.at_ k') H H2 := e.up (fm.mono (by omega) r.inv) (by omega)
    have w1 := Bo.after (τ := fm.at_ k') e2 w1
    cases d1 with
    | list ds =>
      cases d2 <;> first | exact c.elim | skip
      cases w2
      obtain ⟨d, hd, c⟩ := c
      obtain ⟨p, vs, rfl, hs, ha⟩ := w1
      obtain ⟨v, hv, hdp⟩ := atI_dp ha hd
      exact .inl ⟨p, vs, _, v, rfl, rfl, sqL_same res_le hs, hv, q d v H3 c (e'.trans e2) hdp⟩
    | tuple ds =>
      cases d2 <;> first | exact c.elim | skip
      cases w2
      obtain ⟨d, hd, c⟩ := c
      obtain ⟨p, vs, rfl, hs, ha⟩ := w1
      obtain ⟨v, hv, hdp⟩ := atI_dp ha hd
      exact .inr (.inl ⟨p, vs, _, v, rfl, rfl, sqT_same res_le hs, hv, q d v H3 c (e'.trans e2) hdp⟩)
    | str x =>
      cases d2 <;> first | exact c.elim | skip
      cases w2
      cases w1
      obtain ⟨hl, d, hd, c⟩ := c
      exact .inr (.inr ⟨x, _, d, rfl, rfl, small_line hl, hd, q _ _ H3 c (e'.trans e2) (.str _)⟩)
    | none => cases d2 <;> exact c.elim
    | bool _ => cases d2 <;> exact c.elim
    | int _ => cases d2 <;> exact c.elim
    | dict _ => cases d2 <;> exact c.elim)
end
end Pu
namespace Pu
open PySem PySem.Spec PyProof.Rows L2
/-! ### budgets: ranges -/
section
variable {fm : Fm} {b0 b1 b2 : Nat} {G : Gx} {cp : List Str} {N : List Str} {sc : Scope} {n : Nat} {X : Cx} {e e2 tg : Expr} {tv tw : UV} {pos : Pos}
theorem jib_range1 {p : Pos} (S : Ok cp G N sc n X) (hm : Free G "range") (he : JVb fm b1 X e tv) (hg : sc.names.lookup ("range" : Str) = some .globalImplicit := by rfl) (hs : starEach [e] X.env = [(false, eval e X.env)] := by rfl) : JIb fm b1 X tg (.Call (.Name "range" p) [e] [] pos) (iRange1 tv) := fun k k' l m ρ C c H0 γ σ H r R q =>
  wpI_of (pi_range1 (by show X.env.scope.names.lookup _ = _; rw [S.es]; exact hg) (by rw [S.em]; exact hm) (pa_cons pe_w pa_nil (by rw [hs]; rfl)) hs) (he k k' l m ρ _ c H0 γ σ H r _ fun d v H2 c e1 h => by
    obtain ⟨n, rfl, h1, h2, c⟩ := c
    cases h
    obtain ⟨a, b⟩ := pow62 (n := n) (by omega) (by omega)
    exact ⟨n, rfl, a, b, q _ [] _ H2 c e1 (fun p hp => by cases hp) itOk_rng (by rw [rngD_len]; exact small_line (by omega))⟩)
theorem jib_range2 {p : Pos} (S : Ok cp G N sc n X) (hm : Free G "range") (he : JVb fm b1 X e tv) (he2 : JVb fm b2 X e2 tw) (hg : sc.names.lookup ("range" : Str) = some .globalImplicit := by rfl) (hs : starEach [e, e2] X.env = [(false, eval e X.env), (false, eval e2 X.env)] := by rfl) (hs2 : starEach [e2] X.env = [(false, eval e2 X.env)] := by rfl) :
    JIb fm (b1 + b2) X tg (.Call (.Name "range" p) [e, e2] [] pos) (iRange2 tv tw) := fun k k' l mm ρ C c H0 γ σ H r R q =>
  wpI_of (pi_range2 (by show X.env.scope.names.lookup _ = _; rw [S.es]; exact hg) (by rw [S.em]; exact hm) (pa_cons pe_w (pa_cons pe_w pa_nil (by rw [hs2]; rfl)) (by rw [hs, hs2])) hs hs2) (he k (k + b1) (Nat.le_refl _) (by omega) ρ _ c H0 γ σ H r _ fun d v H2 c e1 h => he2 (k + b1) k' (by omega) mm ρ _ c H0 γ σ H2 ((r.up (by omega)).after e1) _ fun d2 v2 H3 c e2 h2 => by
    have e' : Ext (fm.at_ k') H H2 := e1.up (fm.mono (by omega) r.inv) (by omega)
    obtain ⟨m, n, rfl, rfl, h3, h4, h5, h6, h7, c⟩ := c
    cases h; cases h2
    obtain ⟨a1, b1⟩ := pow62 (n := m) (by omega) (by omega)
    obtain ⟨a2, b2⟩ := pow62 (n := n) (by omega) (by omega)
    exact ⟨m, n, rfl, ⟨a1, b1, a2, b2⟩, q _ [] _ H3 c (e'.trans e2) (fun p hp => by cases hp) itOk_rng (by rw [rngD_len]; exact small_line (by omega))⟩)
end
/-! ### the town: a list of a count and of rests, one for each number of the script -/
def ltInv (T : Addr) (L k : Nat) (H : Hp) : Prop := ∃ (c : Int) (ns : List Int), H T = some (.lst (.int c :: ns.map V.int)) ∧ 0 ≤ c ∧ c ≤ (k : Int) ∧ ns.length = L
def lt (T : Addr) (L : Nat) (Ts : List (Addr × Str)) : Fm where
  ad := fun a => a = T ∨ ∃ p ∈ Ts, a = p.1
  inv := fun k H => ltInv T L k H ∧ LamX.Tabs Ts H
  val := .ref T
  tr := fun {k H a} h q => by
    obtain ⟨⟨c, ns, h1, _⟩, ht⟩ := h
    rcases q with rfl | ⟨p, hp, rfl⟩
    · exact ⟨_, h1, trivial⟩
    · obtain ⟨ps, h3, _⟩ := ht p hp
      exact ⟨_, h3, trivial⟩
  dep := fun {k H H'} e h => by
    obtain ⟨⟨c, ns, h1, h2⟩, ht⟩ := h
    refine ⟨⟨c, ns, e T _ h1 (.inl (.inl rfl)), h2⟩, fun p hp => ?_⟩
    obtain ⟨ps, g1, g2, g3⟩ := ht p hp
    refine ⟨ps, e _ _ g1 (.inl (.inr ⟨p, hp, rfl⟩)), g2, fun pos cv q => ?_⟩
    obtain ⟨c0, e1, e2⟩ := g3 pos cv q
    exact ⟨c0, e1, e _ _ e2 (.inr codeO_nlk)⟩
  mono := fun {k k' H} l h => by
    obtain ⟨⟨c, ns, h1, h2, h3, h4⟩, ht⟩ := h
    exact ⟨⟨c, ns, h1, h2, by omega, h4⟩, ht⟩
end Pu
namespace Pu
open PySem PySem.Spec PyProof.Rows L2
/-! ### the list town: the draw's statements -/
section
variable {T : Addr} {L : Nat} {Ts : List (Addr × Str)} {G : Gx} {cp : List Str} {N : List Str} {sc : Scope} {n : Nat} {X : Cx} {x : Str} {p1 p2 p3 p4 p5 p6 p7 p8 pos : Pos} {j1 j2 j3 : Nat}
theorem tabs_updL {H : Hp} {a : Addr} {o : HO} {xs : List V} (h : H a = some (.lst xs)) (t : LamX.Tabs Ts H) : LamX.Tabs Ts (upd H a o) := fun p hp => by
  obtain ⟨ps, g1, g2, g3⟩ := t p hp
  have n1 : p.1 ≠ a := fun q => by rw [q, h] at g1; cases g1
  refine ⟨ps, by rw [upd_ne n1]; exact g1, g2, fun pos cv q => ?_⟩
  obtain ⟨c0, e1, e2⟩ := g3 pos cv q
  have n2 : c0 ≠ a := fun q => by rw [q, h] at e2; cases e2
  exact ⟨c0, e1, by rw [upd_ne n2]; exact e2⟩
/-- town[0] = town[0] + 1 -/
theorem jsb_tick (S : Ok cp G N sc n X) (i : Nat) (hN : N[i]? = some x := by rfl) (hv : Vis sc x := by first | exact Or.inl rfl | exact Or.inr (Or.inl rfl) | exact Or.inr (Or.inr rfl)) (hd : (x == ("__debug__" : Str)) = false := by decide) (hcd : (x == ("__classdict__" : Str)) = false := by decide)
    (hs : swapsWithSole [.Subscript (.Name x p1) (.Constant (.int 0) j1 p2) p3] (.BinOp (.Subscript (.Name x p4) (.Constant (.int 0) j2 p5) p6) .Add (.Constant (.int 1) j3 p7) p8) pos.line X.env = pure false := by rfl)
    (hw : swappedStores [.Subscript (.Name x p1) (.Constant (.int 0) j1 p2) p3] (.BinOp (.Subscript (.Name x p4) (.Constant (.int 0) j2 p5) p6) .Add (.Constant (.int 1) j3 p7) p8) X.env = pure none := by rfl) :
    JSb (lt T L Ts) 1 X (.Assign [.Subscript (.Name x p1) (.Constant (.int 0) j1 p2) p3] (.BinOp (.Subscript (.Name x p4) (.Constant (.int 0) j2 p5) p6) .Add (.Constant (.int 1) j3 p7) p8) pos) (sTick i) := fun k k' l m ρ E c H0 γ σ H r Dn d => by
  have hp : ∀ p : Pos, PE X (.Name x p) (tVar i) := fun p => pe_var (by rw [S.eN]; exact hN) (by rw [S.es]; exact hv) hd hcd
  refine wpS_of (ps_asg (pe_op op_add (pe_ix ix_seq (hp _) pe_int (fun _ _ => rfl)) pe_int) (pg_sub (hp _) pe_int set_list) hs hw) ?_
  have hT : σ[i]? = some (some (.ref T)) := r.sl i _ c.1
  obtain ⟨⟨c0, ns, h1, h2, h3, h4⟩, ht⟩ := r.inv
  refine ⟨_, hT, .inl ⟨T, _, 0, .int c0, rfl, rfl, .inl (.inl h1), atI_nat (j := 0) rfl, c0, 1, rfl, rfl, _, hT, T, _, 0, 0, rfl, rfl, h1, (by unfold ixN; simp), ?_⟩⟩
  have r' : Rep X.K ((lt T L Ts).at_ k') H0 γ H σ ρ := r.up (by omega)
  exact d.nx ρ σ _ c.2 (r'.after ⟨fun a o ea na => by rw [upd_ne fun q => na (.inl q)]; exact ea, fun _ => ⟨⟨c0 + 1, ns, upd_same, by omega, by omega, h4⟩, tabs_updL h1 ht⟩⟩)
/-- town[0] -/
def dCnt (i : Nat) : UV := fun ρ C => ρ[i]? = some .town ∧ ∀ c : Int, 0 ≤ c → c ≤ (kMax : Int) → C (.int c)
theorem jdb_cnt (S : Ok cp G N sc n X) (i : Nat) (hN : N[i]? = some x := by rfl) (hv : Vis sc x := by first | exact Or.inl rfl | exact Or.inr (Or.inl rfl) | exact Or.inr (Or.inr rfl)) (hd : (x == ("__debug__" : Str)) = false := by decide) (hcd : (x == ("__classdict__" : Str)) = false := by decide) :
    JDb (lt T L Ts) 0 X (.Subscript (.Name x p4) (.Constant (.int 0) j2 p5) p6) (dCnt i) := fun k k' l m ρ C c H0 γ σ H r Q q => by
  refine wpE_of (pe_ix ix_seq (pe_var (i := i) (by rw [S.eN]; exact hN) (by rw [S.es]; exact hv) hd hcd) pe_int (fun _ _ => rfl)) ?_
  have hT : σ[i]? = some (some (.ref T)) := r.sl i _ c.1
  obtain ⟨⟨c0, ns, h1, h2, h3, h4⟩, ht⟩ := r.inv
  exact ⟨_, hT, .inl ⟨T, _, 0, .int c0, rfl, rfl, .inl (.inl h1), atI_nat (j := 0) rfl, q (.int c0) _ H (c.2 c0 h2 (by omega)) .refl (.int _)⟩⟩
/-- town[e] -/
def dRst (L i : Nat) (te : UV) : UV := fun ρ C => ρ[i]? = some .town ∧ te ρ fun d => ∃ j : Nat, d = .int ((j : Int) + 1) ∧ j < L ∧ ∀ v : Int, C (.int v)
theorem jdb_rst {e : Expr} {te : UV} {b1 : Nat} (S : Ok cp G N sc n X) (i : Nat) (he : JVb (lt T L Ts) b1 X e te) (hN : N[i]? = some x := by rfl) (hv : Vis sc x := by first | exact Or.inl rfl | exact Or.inr (Or.inl rfl) | exact Or.inr (Or.inr rfl)) (hd : (x == ("__debug__" : Str)) = false := by decide) (hcd : (x == ("__classdict__" : Str)) = false := by decide) (hs : PlainIx e := by exact fun _ _ => rfl) :
    JDb (lt T L Ts) b1 X (.Subscript (.Name x p4) e p6) (dRst L i te) := fun k k' l m ρ C c H0 γ σ H r Q q => by
  refine wpE_of (pe_ix ix_seq (pe_var (i := i) (by rw [S.eN]; exact hN) (by rw [S.es]; exact hv) hd hcd) pe_w hs) ?_
  have hT : σ[i]? = some (some (.ref T)) := r.sl i _ c.1
  refine ⟨_, hT, he k k' l m ρ _ c.2 H0 γ σ H r _ fun d v H2 c2 e2 w2 => ?_⟩
  obtain ⟨j, rfl, hj, c2⟩ := c2
  cases w2
  obtain ⟨⟨c0, ns, h1, h2, h3, h4⟩, ht⟩ := ((r.up (show k ≤ k' by omega)).after e2).inv
  have hx : ns[j]? = some (ns[j]'(by omega)) := List.getElem?_eq_getElem (by omega)
  refine .inl ⟨T, _, (j : Int) + 1, .int (ns[j]'(by omega)), rfl, rfl, .inl (.inl h1), atI_nat (j := j + 1) (by rw [List.getElem?_cons_succ, List.getElem?_map, hx]; rfl), q _ _ H2 (c2 _) e2 (.int _)⟩
/-- town[e] = value -/
def sRst (L i : Nat) (te tv : UV) : US := fun E ρ => ρ[i]? = some .town ∧ tv ρ fun d => ∃ v, d = .int v ∧ te ρ fun d => ∃ j : Nat, d = .int ((j : Int) + 1) ∧ j < L ∧ E.nx ρ
theorem jsb_rst {e value : Expr} {te tv : UV} {b1 b2 : Nat} (S : Ok cp G N sc n X) (i : Nat) (he : JVb (lt T L Ts) b2 X e te) (hf : JVb (lt T L Ts) b1 X value tv) (hN : N[i]? = some x := by rfl) (hv : Vis sc x := by first | exact Or.inl rfl | exact Or.inr (Or.inl rfl) | exact Or.inr (Or.inr rfl)) (hd : (x == ("__debug__" : Str)) = false := by decide) (hcd : (x == ("__classdict__" : Str)) = false := by decide)
    (ha : ∀ v, assign (.Subscript (.Name x p1) e p3) X.env v = (do
      let ov ← holding [v] (eval (.Name x p1) X.env)
      let iv ← holding [v, ov] (eval e X.env)
      standAt p3
      holding [v, ov, iv] (setItem ov iv v)
      release [v, ov, iv] []) := by intro _; rfl)
    (hs : swapsWithSole [.Subscript (.Name x p1) e p3] value pos.line X.env = pure false := by rfl) (hw : swappedStores [.Subscript (.Name x p1) e p3] value X.env = pure none := by rfl) :
    JSb (lt T L Ts) (b1 + b2) X (.Assign [.Subscript (.Name x p1) e p3] value pos) (sRst L i te tv) := fun k k' l m ρ E c H0 γ σ H r Dn d => by
  refine wpS_of (ps_asg pe_w (pg_sub (pe_var (i := i) (by rw [S.eN]; exact hN) (by rw [S.es]; exact hv) hd hcd) pe_w set_list ha) hs hw) ?_
  have hT : σ[i]? = some (some (.ref T)) := r.sl i _ c.1
  refine hf k (k + b1) (Nat.le_refl _) (by omega) ρ _ c.2 H0 γ σ H r _ fun d1 v1 H2 c2 e2 w2 => ?_
  obtain ⟨w, rfl, c2⟩ := c2
  cases w2
  have r2 := (r.up (show k ≤ k + b1 by omega)).after e2
  refine ⟨_, hT, he (k + b1) k' (by omega) m ρ _ c2 H0 γ σ H2 r2 _ fun d3 v3 H3 c3 e3 w3 => ?_⟩
  obtain ⟨j, rfl, hj, c3⟩ := c3
  cases w3
  have r3 := (r2.up (show k + b1 ≤ k' by omega)).after e3
  obtain ⟨⟨c0, ns, h1, h2, h3, h4⟩, ht⟩ := r3.inv
  refine ⟨T, _, (j : Int) + 1, j + 1, rfl, rfl, h1, ?_, ?_⟩
  · unfold ixN
    rw [if_pos (by omega), if_pos (by rw [List.length_cons, List.length_map]; omega)]
    congr 1
  · exact d.nx ρ σ _ c3 (r3.after ⟨fun a o ea na => by rw [upd_ne fun q => na (.inl q)]; exact ea, fun _ => ⟨⟨c0, ns.set j w, by rw [upd_same, List.set_cons_succ, List.map_set], h2, h3, by rw [List.length_set]; exact h4⟩, tabs_updL h1 ht⟩⟩)
end
end Pu
namespace Pu
open PySem PySem.Spec PyProof.Rows L2
/-! ### products of wide numbers -/
abbrev fMulX := fInt CMulX fun i j => i * j
theorem fMulX_ok {X : Cx} : Op2 X (rI CMulX fun i j => .int (i * j)) fMulX := fInt_ok fun _ _ h => h
theorem cnt_sq {c : Int} (h0 : 0 ≤ c) (h1 : c ≤ (kMax : Int)) : CMulX c c := by
  have h2 : c.natAbs < 2 ^ 4097 := by
    have h3 : kMax < 2 ^ 4097 := Nat.pow_lt_pow_right (by decide) (by decide)
    generalize (2 : Nat) ^ 4097 = w at h3
    generalize kMax = v at h1 h3
    omega
  exact mulx_ok h2 h2 (by decide)
end Pu
namespace Pu
open PySem PySem.Spec PyProof.Rows L2
/-! ### budgets: more than is wanted; the law's def -/
/-- the number of the script's numbers -/
class SL where
  L : Nat
theorem c_dCnt {i : Nat} {ρ : En} {C : D → Prop} : dCnt i ρ C = (ρ[i]? = some .town ∧ ∀ c : Int, 0 ≤ c → c ≤ (kMax : Int) → C (.int c)) := propext Iff.rfl
theorem c_dRst {L i : Nat} {te : UV} {ρ : En} {C : D → Prop} : dRst L i te ρ C = (ρ[i]? = some .town ∧ te ρ fun d => ∃ j : Nat, d = .int ((j : Int) + 1) ∧ j < L ∧ ∀ v : Int, C (.int v)) := propext Iff.rfl
theorem c_sRst {L i : Nat} {te tv : UV} {E : Ed} {ρ : En} : sRst L i te tv E ρ = (ρ[i]? = some .town ∧ tv ρ fun d => ∃ v, d = .int v ∧ te ρ fun d => ∃ j : Nat, d = .int ((j : Int) + 1) ∧ j < L ∧ E.nx ρ) := propext Iff.rfl
section
variable {f : Fm} {b b' : Nat} {X : Cx} {e : Expr} {st : Stmt} {ss : List Stmt} {te : UE} {tv : UV} {tt : UT} {ts : US}
theorem jssb_le (h : JSsb f b X ss ts) (l : b ≤ b') : JSsb f b' X ss ts := fun k k' l' => h k k' (by omega)
theorem jsb_le (h : JSb f b X st ts) (l : b ≤ b') : JSb f b' X st ts := fun k k' l' => h k k' (by omega)
end
section
variable {G : Gx}
theorem law_okB {Ts : List (Addr × Str)} {x : Str} {st : Stmt} {f : Addr} {fd : FuncData} {N : List Str} {k i b : Nat} {t : SL → US} {rest : List Stmt} {e0 : Expr} {te : UE} {p1 pos : Pos} {xt : Str} (F : FunD G.K x x (defArgs st) (defBody st) (defScope st) [] [] f fd) (S : FnScope N ["script"] (defScope st))
    (hb : defBody st = .Assign [.Name xt p1] e0 pos :: rest)
    (h0 : ∀ X, Ok [] G N (defScope st) k X → JE tn0 X e0 te) (hte : ∀ ns : List Int, ns.length ≤ 63 → te (en0 N [.dat (scrD ns)]) fun r => r = .lst (.int 0 :: ns.map PyData.int))
    (h : ∀ (L : Nat) (T : Addr) X, Ok [] G N (defScope st) k X → AtC X fd.code (qOf x (defScope st)) → JSsb (lt T L Ts) b X rest (t ⟨L⟩)) (ht : ∀ ns : List Int, ns.length ≤ 63 → t ⟨ns.length⟩ edLaw (enLaw N i ns))
    (hN : N[i]? = some xt) (hx : (defScope st).names.lookup xt = some .local ∨ (defScope st).names.lookup xt = some .cell) (hi : i ≠ 0) (hbm : b ≤ kMax)
    (hs : ∀ env : Env, swapsWith e0 (some (.Name xt p1)) pos.line env = pure false) : FnOk G.P G.w G.K G.mg G.base CX0 (k + 1) f fd ["script"] (spLaw G.K Ts) := by
  obtain ⟨oc, od, dV, kV, doc, pm, an, cdv, ct, osl, rfl, lk, hcd, _, _⟩ := F.ex
  refine fn_of lk hcd S (fun vs H Q E h => ?_) (fun A outer s H vs Q E hr h' => ⟨wpSs (cxOf CX0 G.P G.w G.K G.mg G.base N x (defScope st) f cdv A outer s H E).nox (defBody st), PSs.nox pss_w, ?_⟩)
  · obtain ⟨a, ns, rfl, _⟩ := h
    rfl
  · obtain ⟨a, ns, rfl, hS, hl, hTs, hq⟩ := h'
    have O : Ok [] G N (defScope st) k (cxOf CX0 G.P G.w G.K G.mg G.base N x (defScope st) f cdv A outer s H E).nox := ⟨rfl, rfl, rfl, rfl, rfl, rfl, S.nd, rfl, S.kind, rfl, hr, fun _ _ _ => rfl, PassesOwn.never⟩
    rw [hb]
    refine wpSs_of (pss_cons (ps_set (i := i) S.nd hN (by exact hx) pe_w (hs _) (by exact Or.inl rfl)) pss_w) ?_
    have hdp0 : Dp G.K (res H tn0.ad) (.ref a) (scrD ns) := by
      refine .lst ?_ (dp_ints ns)
      have : SqL G.K H a (ns.map V.int) := hS
      rcases this with (e | ⟨o, e⟩) | e
      · exact .inl (.inl (res_put (fun z => z) e))
      · exact .inl (.inr ⟨o, res_put (fun z => z) e⟩)
      · exact .inr e
    have rep00 : Rep G.K tn0 H [] H (L2.start N [.ref a]) (en0 N [.dat (scrD ns)]) := rep_start (τ := tn0) trivial trivial (.cons hdp0 .nil)
    refine h0 _ O _ _ (hte ns hl) H [] _ H rep00 _ fun r v H2 c e2 w => ?_
    subst c
    obtain ⟨T, vs, rfl, hT, hT', hvs⟩ := w
    have ev : vs = .int 0 :: ns.map V.int := intsOf_dp (ns := 0 :: ns) (by
      have hh : ∀ l : List Int, intsOf (l.map PyData.int) = some l := fun l => by
        induction l with
        | nil => rfl
        | cons a l ih => simp [intsOf, ih]
      exact hh (0 :: ns)) hvs
    subst ev
    have hkp : ∀ b o, H b = some o → H2 b = some o := fun b o e => e2.kp b o e fun z => z
    have hinv : ((lt T ns.length Ts).at_ 0).inv H2 := ⟨⟨0, ns, hT', by decide, by decide, rfl⟩, fun p hp => LamX.TabS.nil (hkp _ _ (hTs p hp))⟩
    have hdp : Dp G.K (res H2 ((lt T ns.length Ts).at_ 0).ad) (.ref a) (scrD ns) := by
      refine .lst ?_ (dp_ints ns)
      have : SqL G.K H a (ns.map V.int) := hS
      rcases this with (e | ⟨o, e⟩) | e
      · exact .inl (.inl (res_put (fun z => by
        rcases z with z | ⟨p, hp, z⟩ <;> rw [z] at e
        · rw [hT] at e; cases e
        · rw [hTs p hp] at e; cases e) (hkp _ _ e)))
      · exact .inl (.inr ⟨o, res_put (fun z => by
        rcases z with z | ⟨p, hp, z⟩ <;> rw [z] at e
        · rw [hT] at e; cases e
        · rw [hTs p hp] at e; cases e) (hkp _ _ e)⟩)
      · exact .inr e
    have hNl : i < N.length := (List.getElem?_eq_some_iff.mp hN).1
    have rep0 : Rep G.K ((lt T ns.length Ts).at_ 0) H2 [] H2 (L2.start N [.ref a]) (en0 N [.dat (scrD ns)]) := rep_start (τ := (lt T ns.length Ts).at_ 0) trivial hinv (.cons hdp .nil)
    have rep : Rep G.K ((lt T ns.length Ts).at_ 0) H2 [] H2 ((L2.start N [.ref a]).set i (some (.ref T))) (enLaw N i ns) := by
      have hown : ∀ b, own ((lt T ns.length Ts).at_ 0) ((L2.start N [.ref a]).set i (some (.ref T))) (enLaw N i ns) b → ((lt T ns.length Ts).at_ 0).ad b := fun b z => by
        rcases z with z | ⟨j, u, h1, h2, _⟩
        · exact z
        · by_cases e : i = j
          · subst e
            rw [(set_here h1).1] at h2; cases h2
          · rw [en0_own (set_other e h1)] at h2; cases h2
      refine ⟨by unfold enLaw; simp [rep0.len], fun _ _ e _ => e, hinv, fun j u hu => ?_, fun j l u w b h1 h2 h3 => ?_, (fun p hp => by cases hp), trivial⟩
      · by_cases e : i = j
        · subst e
          obtain ⟨rfl, hi2⟩ := set_here hu
          show ((L2.start N [.ref a]).set i (some (.ref T)))[i]? = some (some (V.ref T))
          exact List.getElem?_set_self (by rw [rep0.len]; exact hi2)
        · rw [List.getElem?_set_ne e]
          refine SlOk.mono (res_mono fun b o n q => ⟨fun z => n (own_ad (hown b z)), q⟩) (fun _ _ _ _ _ q => q) (rep0.sl j u (set_other e hu))
      · by_cases e : i = j
        · subst e
          rw [(set_here h1).1] at h3; cases h3
        · rw [en0_own (set_other e h1)] at h3; cases h3
    refine h ns.length T _ O ⟨rfl, rfl⟩ 0 b (by omega) hbm _ _ (ht ns hl) _ [] _ _ rep _ ⟨fun ρ σ H' c r => c.elim, fun ρ σ H' c r => c.elim, fun ρ σ H' c r => c.elim, fun r v H' c e i z => ?_⟩
    subst c
    have z : Dp G.K (res H' ((lt T ns.length Ts).at_ b).ad) v (.bool true) := z
    cases z
    exact hq H'
end
end Pu
namespace Pu
open PySem PySem.Spec PyProof.Rows L2
/-! ### budgets: built-ins, walks, comprehensions whose items draw -/
def JVsb (f : Fm) (b : Nat) (X : Cx) (es : List Expr) (t : UL) : Prop := ∀ k k', k + b ≤ k' → k' ≤ kMax → ∀ (ρ : En) (C : List D → Prop), t ρ C → ∀ (H0 : Hp) (γ : List (V × D)) (σ : St) (H : Hp), Rep X.K (f.at_ k) H0 γ H σ ρ → ∀ Q : List V → Hp → Prop,
  (∀ ds vs H2, C ds → Ext (f.at_ k') H H2 → Paired (fun v d => Bo X.K (f.at_ k') H2 (res H2 (own (f.at_ k') σ ρ)) v d) vs ds → Q vs H2) → wpA X es σ H Q
def JIxb (f : Fm) (b : Nat) (X : Cx) (tg iter : Expr) (t : UL) : Prop := ∀ k k', k + b ≤ k' → k' ≤ kMax → ∀ (ρ : En) (C : List D → Prop), t ρ C → ∀ (H0 : Hp) (γ : List (V × D)) (σ : St) (H : Hp), Rep X.K (f.at_ k) H0 γ H σ ρ → ∀ R : It → Hp → Prop,
  (∀ J γ' ds H2, C ds → Ext (f.at_ k') H H2 → (∀ p ∈ γ', Bo X.K (f.at_ k') H2 (res H2 (own (f.at_ k') σ ρ)) p.1 p.2) → ItOk X.K (f.at_ k') J γ' ds → ds.length ≤ sizeLine → R J H2) → wpI X tg iter σ H R
def JTsb (fm : Fm) (X : Cx) (ifs : List Expr) (t : UT) : Prop := ∀ τ : Tn, τ.free → JTs τ X ifs t
section
variable {fm : Fm} {b0 b1 b2 b3 : Nat} {G : Gx} {cp : List Str} {N : List Str} {sc scope : Scope} {n : Nat} {X : Cx} {e a b cc tg iter elt : Expr} {es ifs : List Expr} {t u : UV} {te ue : UE} {tt : UT} {ti ts : UL} {g : UG} {pos p p2 p3 apos : Pos} {x y : Str} {st : Stmt} {us : US}
theorem jvsb_0 (h : ∀ τ : Tn, τ.free → JVs τ X es ts) : JVsb fm 0 X es ts := fun k k' l _ ρ C c H0 γ σ H r Q q => h _ (fun _ => trivial) ρ C c H0 γ σ H r.exa Q fun ds vs H2 c2 e2 b2 => q ds vs H2 c2 (e2.exa l) b2
theorem jvsb_cons (h : JVb fm b1 X e t) (hs : JVsb fm b2 X es ts) (hst : starEach (e :: es) X.env = (false, eval e X.env) :: starEach es X.env := by rfl) : JVsb fm (b1 + b2) X (e :: es) (lCons t ts) := fun k k' l m ρ C c H0 γ σ H r Q q =>
  wpA_of (pa_cons pe_w pa_w hst) (h k (k + b1) (Nat.le_refl _) (by omega) ρ _ c H0 γ σ H r _ fun d v H2 c e w => hs (k + b1) k' (by omega) m ρ _ c H0 γ σ H2 ((r.up (by omega)).after e) _ fun ds vs H3 c e2 w2 =>
    q (d :: ds) (v :: vs) H3 c ((e.up (fm.mono (by omega) r.inv) (by omega)).trans e2) (.cons (Bo.after (τ := fm.at_ k') e2 w) w2))
theorem jdb_neg (ha : JVb fm b1 X a t) : JDb fm b1 X (.UnaryOp .USub a pos) (d1 fNeg t) := fun k k' l m ρ C c H0 γ σ H r Q q =>
  wpE_of (pe_un un_neg pe_w) (ha k k' l m ρ _ c H0 γ σ H r _ fun d v H2 c e b => by
    cases d <;> first | exact c.elim | skip
    cases b
    exact ⟨_, rfl, q _ _ H2 c e (.int _)⟩)
theorem jeb_blt {id : String} {r : List V → Hp → VK → Prop} {f : List D → (Rs → Prop) → Prop} (O : Ok cp G N sc n X) (hc : CallR X (.builtin id) r) (hf : Cb X r f) (hm : Free G x) (ha : JVsb fm b1 X (e :: es) ts) (hv : bootBuiltins x = some (.builtin id)) (hg : sc.names.lookup x = some .globalImplicit := by rfl)
    (hn : x ≠ "__name__" := by decide) (hdb : (x == ("__debug__" : Str)) = false := by decide) (he : starEach (e :: es) X.env = (false, eval e X.env) :: starEach es X.env := by rfl) (hpl : (backTo pos (starEach es X.env)).any (·.1) = false := by rfl) :
    JEb fm b1 X (.Call (.Name x p) (e :: es) [] pos) (eB f ts) := fun k k' l m ρ C c H0 γ σ H r Q q =>
  wpE_of (pe_callB hc (by show X.env.scope.names.lookup x = _; rw [O.es]; exact hg) (by rw [O.em]; exact hm) hv pa_w hn hdb he hpl) (ha k k' l m ρ _ c H0 γ σ H r _ fun ds vs H2 c e1 w =>
    have r' : Rep X.K (fm.at_ k') H0 γ H σ ρ := r.up (by omega)
    hf (fm.at_ k') H0 H2 γ σ ρ vs ds C (r'.after e1) w c Q fun rs v H3 c e2 h => q rs v H3 c (e1.trans e2) (rs_back r' e1 h))
theorem jeb_bty {T : String} {r : List V → Hp → VK → Prop} {f : List D → (Rs → Prop) → Prop} (O : Ok cp G N sc n X) (hc : CallR X (.type T) r) (hf : Cb X r f) (hm : Free G x) (ha : JVsb fm b1 X (e :: es) ts) (hv : bootBuiltins x = some (.type T)) (hg : sc.names.lookup x = some .globalImplicit := by rfl)
    (hn : x ≠ "__name__" := by decide) (hdb : (x == ("__debug__" : Str)) = false := by decide) (he : starEach (e :: es) X.env = (false, eval e X.env) :: starEach es X.env := by rfl) (hpl : (backTo pos (starEach es X.env)).any (·.1) = false := by rfl) :
    JEb fm b1 X (.Call (.Name x p) (e :: es) [] pos) (eB f ts) := fun k k' l m ρ C c H0 γ σ H r Q q =>
  wpE_of (pe_callTy hc (by show X.env.scope.names.lookup x = _; rw [O.es]; exact hg) (by rw [O.em]; exact hm) hv pa_w hn hdb he hpl) (ha k k' l m ρ _ c H0 γ σ H r _ fun ds vs H2 c e1 w =>
    have r' : Rep X.K (fm.at_ k') H0 γ H σ ρ := r.up (by omega)
    hf (fm.at_ k') H0 H2 γ σ ρ vs ds C (r'.after e1) w c Q fun rs v H3 c e2 h => q rs v H3 c (e1.trans e2) (rs_back r' e1 h))
theorem jeb_add (ha : JVb fm b1 X a t) (hb : JVb fm b2 X b u) : JEb fm (b1 + b2) X (.BinOp a .Add b pos) (eAdd t u) := fun k k' l m ρ C c H0 γ σ H r Q q =>
  wpE_of (pe_op op_addU pe_w pe_w) (ha k (k + b1) (Nat.le_refl _) (by omega) ρ _ c H0 γ σ H r _ fun d1 v1 H2 c e w1 => hb (k + b1) k' (by omega) m ρ _ c H0 γ σ H2 ((r.up (by omega)).after e) _ fun d2 v2 H3 c e2 w2 => by
    have e' : Ext (fm.at_ k') H H2 := e.up (fm.mono (by omega) r.inv) (by omega)
    have r' : Rep X.K (fm.at_ k') H0 γ H σ ρ := r.up (by omega)
    have r3 := (r'.after e').after e2
    have w1' := Bo.after (τ := fm.at_ k') e2 w1
    by_cases hl : ∃ xs ys, d1 = .list xs ∧ d2 = .list ys
    · obtain ⟨xs, ys, rfl, rfl⟩ := hl
      obtain ⟨a, vs, rfl, hs, ha⟩ := w1'
      obtain ⟨b, ws, rfl, ht, hb⟩ := w2
      refine .inr (.inr (.inr ⟨a, b, vs, ws, rfl, rfl, sqL_same res_le hs, sqL_same res_le ht, by rw [dpAll_len ha, dpAll_len hb]; exact small_line c.1, fun p hp => ?_⟩))
      exact q _ _ _ c.2 ((e'.trans e2).trans (.new hp)) (rs_back r' (e'.trans e2) (new_lst r3 hp (dpAll_append ha hb)))
    · have c' : fAdd d1 d2 fun d => C (.dat d) := by
        unfold fAddE at c
        split at c
        · exact absurd ⟨_, _, rfl, rfl⟩ hl
        · exact c
      exact fAdd_ok _ _ _ _ _ _ _ _ _ _ _ r3 w1' w2 c' Q fun d v H4 c e4 h => q _ v H4 c ((e'.trans e2).trans e4) h)
/-! walks -/
theorem jixb_0 (h : ∀ τ : Tn, τ.free → JIx τ X tg iter ti) : JIxb fm 0 X tg iter ti := fun k k' l _ ρ C c H0 γ σ H r R q => h _ (fun _ => trivial) ρ C c H0 γ σ H r.exa R fun J γ' ds H2 c2 e2 g2 o2 l2 => q J γ' ds H2 c2 (e2.exa l) g2 ⟨o2.go, o2.yld, o2.stop⟩ l2
theorem jixb_of (h : JIb fm b1 X tg iter ti) : JIxb fm b1 X tg iter ti := fun k k' l m ρ C c H0 γ σ H r R q => h k k' l m ρ C c H0 γ σ H r R fun J γ' ds H2 c2 e2 g2 o2 l2 => q J γ' ds H2 c2 e2 (fun p hp => bo_of res_own_ad (g2 p hp)) o2 l2
theorem jib_seq (he : JDb fm b1 X iter t) : JIb fm b1 X tg iter (iSeq t) := fun k k' l m ρ C c H0 γ σ H r R q =>
  wpI_size (wpI_of (pi_seqU pe_w) (he k k' l m ρ _ c H0 γ σ H r _ fun d v H2 c e1 h => by
    cases h with
    | lst hs ha => exact .inl ⟨_, rfl, ⟨_, sqL_same res_le hs⟩, fun z1 z2 => q _ [(_, _)] _ H2 c e1 (fun p hp => by rw [List.mem_singleton.mp hp]; exact .lst hs ha) itOk_list (by rw [← dpAll_len ha]; exact z1 _ _ (sqL_same res_le hs))⟩
    | tup hs ha => exact .inr (.inl ⟨_, rfl, ⟨_, sqT_same res_le hs⟩, fun z1 z2 => q _ [(_, _)] _ H2 c e1 (fun p hp => by rw [List.mem_singleton.mp hp]; exact .tup hs ha) itOk_tup (by rw [← dpAll_len ha]; exact z2 _ _ (sqT_same res_le hs))⟩)
    | non => exact c.elim
    | bl _ => exact c.elim
    | int _ => exact c.elim
    | str x => exact .inr (.inr ⟨x, rfl, fun _ _ => q _ [] _ H2 c.2 e1 (fun p hp => by cases hp) itOk_str (by rw [signsD_len]; exact Nat.le_of_lt (slice_line c.1))⟩)))
/-! statements -/
theorem jsb_append (S : Ok cp G N sc n X) (i : Nat) (he : JDb fm b1 X e t) (hN : N[i]? = some x := by rfl) (hv : Vis sc x := by first | exact Or.inl rfl | exact Or.inr (Or.inl rfl) | exact Or.inr (Or.inr rfl)) (hd : (x == ("__debug__" : Str)) = false := by decide) (hcd : (x == ("__classdict__" : Str)) = false := by decide)
    (hfew : ((backTo p3 (starEach [e] X.env)).all (fun x => !x.1) && (backToKw p3 (keywordEach [] X.env)).all (fun x => x.1.isSome) && decide ([e].length + ([] : List Keyword).length + (if ([] : List Keyword).isEmpty then 0 else 1) < 30)) = true := by rfl)
    (hline : (apos.endLine == p3.line) = true := by rfl) (hst : starEach [e] X.env = (false, eval e X.env) :: starEach [] X.env := by rfl) :
    JSb fm b1 X (.Expr (.Call (.Attribute (.Name x p2) "append" apos) [e] [] p3) pos) (sAppend i t) := fun k k' l m ρ E c H0 γ σ H r Dn d => by
  refine wpS_of (ps_expr (pe_bm PySem.F.plainAttrs_list PySem.F.slot_list_append PySem.F.type_list_append mt_append (pe_var (i := i) (by rw [S.eN]; exact hN) (by rw [S.es]; exact hv) hd hcd) (pa_cons pe_w pa_nil hst) rfl hfew hline hst rfl)) ?_
  unfold sAppend at c
  split at c
  · rename_i ds hi
    obtain ⟨p, vs, e0, h0, hn, h, h'⟩ := r.sl i _ hi
    refine ⟨_, e0, .inl ⟨rfl, vs, .inl (.inl h)⟩, he k k' l m ρ _ c H0 γ σ H r _ fun dd v H2 c e1 h1 => ?_⟩
    have r1 := (r.up (show k ≤ k' by omega)).after e1
    refine ⟨p, vs, v, rfl, rfl, e1.kp p _ h hn, ?_, d.nx _ _ _ c.2 ?_⟩
    · rw [dpAll_len h']; exact slice_line c.1
    · exact r1.change hi rfl rfl e0 hn h0 ⟨p, _, rfl, h0, hn, upd_same, dpAll_append (dpAll_after (τ := fm.at_ k') e1 h') (.cons h1 .nil)⟩
  · exact c.elim
theorem jsb_expr (he : JEb fm b1 X e te) (hs : swapsWith e none pos.line X.env = pure false := by rfl) : JSb fm b1 X (.Expr e pos) (sDrop te) := fun k k' l m ρ E c H0 γ σ H r Dn d =>
  wpS_of (ps_expr pe_w hs) (he k k' l m ρ _ c H0 γ σ H r _ fun rs v H2 c e1 h => d.nx ρ σ H2 c ((r.up (by omega)).after e1))
theorem jsb_asg (he : JDb fm b1 X e t) (hg : ∀ τ : Tn, τ.free → JG τ X tg g) (hs : swapsWithSole [tg] e pos.line X.env = pure false := by rfl) (hw : swappedStores [tg] e X.env = pure none := by rfl)
    (h1 : (assignEach [tg] X.env).map (·.2) = [assign tg X.env] := by rfl) : JSb fm b1 X (.Assign [tg] e pos) (sAsg t g) := fun k k' l m ρ E c H0 γ σ H r Dn d =>
  wpS_of (ps_asg pe_w pg_w hs hw h1) (he k k' l m ρ _ c H0 γ σ H r _ fun dd v H2 c e1 h => hg (fm.at_ k') (fun _ => trivial) dd ρ _ c H0 γ σ H2 v ((r.up (by omega)).after e1) h _ fun ρ' σ' c r' _ => d.nx ρ' σ' H2 c r')
theorem jsb_par2 {px py pt pt2 : Pos} {kt k2 : Nat} (S : Ok cp G N sc n X) (i j : Nat) (ha : JEb fm b1 X a te) (hb : JEb fm b2 X b ue) (hi : N[i]? = some x := by rfl) (hj : N[j]? = some y := by rfl) (hij : i ≠ j := by decide)
    (hx : sc.names.lookup x = some .local := by rfl) (hy : sc.names.lookup y = some .local := by rfl)
    (hw : swappedStores [.Tuple [.Name x px, .Name y py] kt pt] (.Tuple [a, b] k2 pt2) { (default : Env) with scope := sc } = pure (some [x, y]) := by rfl)
    (hs : swapsWithSole [.Tuple [.Name x px, .Name y py] kt pt] (.Tuple [a, b] k2 pt2) pos.line X.env = pure false := by rfl) (hst : starEach [a, b] X.env = (false, eval a X.env) :: starEach [b] X.env := by rfl) (hst2 : starEach [b] X.env = (false, eval b X.env) :: starEach [] X.env := by rfl) :
    JSb fm (b1 + b2) X (.Assign [.Tuple [.Name x px, .Name y py] kt pt] (.Tuple [a, b] k2 pt2) pos) (sPar2 i j te ue) := fun k k' l m ρ E c H0 γ σ H r Dn d =>
  wpS_of (ps_par (i := i) (j := j) S.calm (by rw [S.eN]; exact S.nd) (by rw [S.eN]; exact hi) (by rw [S.eN]; exact hj) hij (by rw [S.es]; exact hx) (by rw [S.es]; exact hy) (pa_cons pe_w (pa_cons pe_w pa_nil hst2) hst) ((swapped_env S.es).trans hw) hs)
    (ha k (k + b1) (Nat.le_refl _) (by omega) ρ _ c H0 γ σ H r _ fun r1 v1 H2 c e1 h1 => hb (k + b1) k' (by omega) m ρ _ c H0 γ σ H2 ((r.up (by omega)).after e1) _ fun r2 v2 H3 c e2 h2 =>
      have e' : Ext (fm.at_ k') H H2 := e1.up (fm.mono (by omega) r.inv) (by omega)
      have r' : Rep X.K (fm.at_ k') H0 γ H σ ρ := r.up (by omega)
      have h1' : RsOk X.K (fm.at_ k') H H2 σ ρ v1 r1 := by
        cases r1 <;> exact h1
      ⟨v1, v2, rfl, d.nx _ _ H3 c.2.2 ((r'.set e' h1').set e2 (RsOk.beside r' e' e2 h1' c.2.1 h2))⟩)
theorem jsb_frz (i : Nat) (h : JSb fm b1 X st us) : JSb fm b1 X st (sFrz i us) := fun k k' l m ρ E c H0 γ σ H r Dn d => by
  unfold sFrz at c
  split at c
  · rename_i ds hi
    refine h k k' l m _ E c H0 γ σ H ?_ Dn d
    obtain ⟨p, vs, e0, h0, hn, hp, ha⟩ := r.sl i _ hi
    have sub : ∀ b, own (fm.at_ k) σ (ρ.set i (.dat (.list ds))) b → own (fm.at_ k) σ ρ b ∧ b ≠ p := by
      rintro b (z | ⟨j, u, g1, g2, g3⟩)
      · exact ⟨.inl z, fun q => hn (by rw [← q]; exact z)⟩
      · have ne : i ≠ j := fun q => by subst q; rw [(set_here g1).1] at g2; cases g2
        exact ⟨.inr ⟨j, u, set_other ne g1, g2, g3⟩, fun q => ne (r.sep i j _ u p hi (set_other ne g1) rfl g2 e0 (by rw [← q]; exact g3))⟩
    have le : Same (res H (own (fm.at_ k) σ ρ)) (res H (own (fm.at_ k) σ (ρ.set i (.dat (.list ds))))) := res_mono fun a o n q => ⟨fun z => n (sub a z).1, q⟩
    refine ⟨by simp [r.len], r.ext, r.inv, fun j u hu => ?_, fun j l u w b g1 g2 g3 g4 g5 g6 => ?_, fun q hq => dp_same le _ _ (r.gh q hq), r.zz⟩
    · by_cases ej : i = j
      · subst ej
        obtain ⟨rfl, _⟩ := set_here hu
        exact ⟨_, e0, .lst (.inl (.inl (res_put (fun z => (sub p z).2 rfl) hp))) (dpAll_same le _ _ ha)⟩
      · exact SlOk.mono le (fun _ _ _ _ _ q => q) (r.sl j u (set_other ej hu))
    · have n1 : i ≠ j := fun e => by subst e; rw [(set_here g1).1] at g3; cases g3
      have n2 : i ≠ l := fun e => by subst e; rw [(set_here g2).1] at g4; cases g4
      exact r.sep j l u w b (set_other n1 g1) (set_other n2 g2) g3 g4 g5 g6
  · exact h k k' l m ρ E c H0 γ σ H r Dn d
theorem jtb_tru (ha : JVb fm b1 X a t) (he : ∀ whole, isTrue a X.env whole = (do let v ← whole; standAt a.pos; holding [v] (truthy v)) := by intro _; rfl) : JTb fm b1 X a (bTru t) := fun k k' l m ρ C c H0 γ σ H r Q q =>
  wpT_of (pt_truth pe_w he) (ha k k' l m ρ _ c H0 γ σ H r _ fun d v H2 c e b => by
    cases d with
    | none => cases b; exact ⟨_, rfl, q _ H2 c e⟩
    | bool _ => cases b; exact ⟨_, rfl, q _ H2 c e⟩
    | int _ => cases b; exact ⟨_, rfl, q _ H2 c e⟩
    | str _ => cases b; exact ⟨_, ⟨small_line c.1, rfl⟩, q _ H2 c.2 e⟩
    | list ds =>
      obtain ⟨p, vs, rfl, hs, ha⟩ := b
      exact ⟨_, .inl ⟨vs, sqL_same res_le hs, rfl⟩, q _ H2 (by rw [empty_dp ha]; exact c) e⟩
    | tuple ds =>
      obtain ⟨p, vs, rfl, hs, ha⟩ := b
      exact ⟨_, .inr (.inl ⟨vs, sqT_same res_le hs, rfl⟩), q _ H2 (by rw [empty_dp ha]; exact c) e⟩
    | dict _ => exact c.elim)
/-! list comprehensions: the items draw -/
theorem lc_readB (own_ : List (Str × Nat)) (S : Ok cp G N sc n X) (hi : JIxb fm b0 X tg iter ti) (hg : ∀ X', Ok (capt scope) G N (relS scope sc) n X' → ∀ τ : Tn, τ.free → JGc (own_.map (·.2)) τ X' tg g) (ht : ∀ X', Ok (capt scope) G N (relS scope sc) n X' → JTsb fm X' ifs tt) (he : ∀ X', Ok (capt scope) G N (relS scope sc) n X' → JDb fm b1 X' elt t)
    (ok : BlkOk N sc scope own_) (k k' : Nat) (l : k + (b0 + sizeLine * b1) ≤ k') (mx : k' ≤ kMax) (ρ : En) (C : Rs → Prop) (c : eLc ti g tt t (own_.map (·.2)) ρ C) (H0 : Hp) (γ : List (V × D)) (σ : St) (H : Hp) (r : Rep X.K (fm.at_ k) H0 γ H σ ρ) (Q : VK)
    (q : ∀ r v H2, C r → Ext (fm.at_ k') H H2 → RsOk X.K (fm.at_ k') H H2 σ ρ v r → Q v H2) : tLc (wpI X tg iter) (wgB X scope tg) (wtB X scope ifs) (weB X scope elt) (own_.map (·.2)) σ H Q := by
  obtain ⟨hno, c⟩ := c
  have hkd := ok.kind
  refine hi k (k + b0) (Nat.le_refl _) (by omega) ρ _ c H0 γ σ H r _ fun J γ' ds H1 c e1 hγ hJ hlen D hD => ?_
  have r0 := r.up (show k ≤ k + b0 by omega)
  have R1 := r0.after e1
  have nownD : ¬ own (fm.at_ (k + b0)) σ ρ D := R1.notOwn hD
  have cap : ∀ j, j ≤ ds.length → k + b0 + j * b1 ≤ k' := fun j hj => by
    have : j * b1 ≤ sizeLine * b1 := Nat.mul_le_mul_right _ (Nat.le_trans hj hlen)
    omega
  refine ⟨fun i m H' => m = ds.length - i ∧ i ≤ ds.length ∧ ∃ acc ws, H' D = some (.lst ws) ∧ Ext (fm.at_ (k + b0 + i * b1)) H1 (unT H' D) ∧ DpAll X.K (res (unT H' D) (own (fm.at_ k) σ ρ)) ws acc ∧ acc.length ≤ i ∧ lcC g tt t (fun acc => C (.lst acc)) (wipeS ρ (own_.map (·.2))) (ds.drop i) acc, ⟨_, rfl, Nat.zero_le _, [], [], upd_same, ?_, .nil, Nat.le_refl _, c⟩, fun i m H' ⟨hm, hle, acc, ws, h1, h2, h3, h4, c⟩ => ?_⟩
  · rw [unT_upd hD, Nat.zero_mul]; exact .refl
  have R1i : Rep X.K (fm.at_ (k + b0 + i * b1)) H0 γ H1 σ ρ := R1.up (Nat.le_add_right _ _)
  have R2 := R1i.after h2
  have bo : ∀ p ∈ γ', Bo X.K (fm.at_ (k + b0)) H' (res H' (fun b => own (fm.at_ k) σ ρ b ∨ b = D)) p.1 p.2 := fun p hp => by
    have b := Bo.after (τ := fm.at_ (k + b0 + i * b1)) h2 (hγ p hp)
    have l1 : Same (res (unT H' D) fm.ad) (res H' fm.ad) := res_mono fun b o n e => ⟨n, unT_le b o e⟩
    have l2 : Same (res (unT H' D) (own (fm.at_ k) σ ρ)) (res H' (fun b => own (fm.at_ k) σ ρ b ∨ b = D)) := res_mono fun b o n e => by
      have hb : b ≠ D := fun z => by rw [z, unT_same] at e; cases e
      exact ⟨fun z => z.elim n hb, unT_le b o e⟩
    obtain ⟨v, d⟩ := p
    cases d with
    | list ds => obtain ⟨a, vs, e, hs, ha⟩ := b; exact ⟨a, vs, e, sqL_same l1 hs, dpAll_same l2 _ _ ha⟩
    | tuple ds => obtain ⟨a, vs, e, hs, ha⟩ := b; exact ⟨a, vs, e, sqT_same l1 hs, dpAll_same l2 _ _ ha⟩
    | none => exact b
    | bool _ => exact b
    | int _ => exact b
    | str _ => exact b
    | dict _ => exact b
  by_cases hlt : i < ds.length
  · rw [List.drop_eq_getElem_cons hlt, lcC] at c
    have ei : k + b0 + i * b1 + b1 ≤ k + b0 + (i + 1) * b1 := by rw [Nat.succ_mul]; omega
    refine .inr ⟨hJ.go H' _ bo i hlt, fun H'' => i + 1 ≤ ds.length ∧ ∃ acc ws, H'' D = some (.lst ws) ∧ Ext (fm.at_ (k + b0 + (i + 1) * b1)) H1 (unT H'' D) ∧ DpAll X.K (res (unT H'' D) (own (fm.at_ k) σ ρ)) ws acc ∧ acc.length ≤ i + 1 ∧ lcC g tt t (fun acc => C (.lst acc)) (wipeS ρ (own_.map (·.2))) (ds.drop (i + 1)) acc,
      fun H'' h => ⟨ds.length - (i + 1), by omega, rfl, h⟩, fun x H4 hy X' hX' => ?_⟩
    obtain ⟨sm, hdp⟩ := hJ.yld H' _ bo (fun a ha z => z.elim (fun z => by
      obtain ⟨o, e, _⟩ := R2.ownMut z
      rw [unT_le a o e] at ha; cases ha) fun z => by rw [z, h1] at ha; cases ha) i _ (List.getElem?_eq_getElem hlt) x H4 hy
    have h4D : H4 D = some (.lst ws) := sm D _ h1
    have smU : Same (unT H' D) (unT H4 D) := fun b o e => by
      have hb : b ≠ D := fun z => by rw [z, unT_same] at e; cases e
      rw [unT_ne hb] at e ⊢
      exact sm b o e
    have R4 := R2.after (.of_same smU)
    have dp4 : Dp X.K (res (unT H4 D) (own (fm.at_ k) σ ρ)) x ds[i] := dp_same (res_mono fun b o n e => ⟨fun z => n (.inl z), by rw [unT_ne fun z => n (.inr z)]; exact e⟩) _ _ hdp
    have dpw4 : DpAll X.K (res (unT H4 D) (own (fm.at_ k) σ ρ)) ws acc := dpAll_after (τ := fm.at_ k) (.of_same smU) h3
    have eK := isBlk_K hX'
    have SX' := isBlk_ok S hkd hX'
    have now : own (fm.at_ (k + b0 + i * b1)) (wipe σ (own_.map (·.2))) (wipeS ρ (own_.map (·.2))) = own (fm.at_ k) σ ρ := own_wipe_eq (τ := fm.at_ k) hno
    refine wpG_hide h4D (hg X' SX' (fm.at_ (k + b0 + i * b1)) (fun _ => trivial) _ (wipeS ρ (own_.map (·.2))) _ c (fun j hj s hs => ?_) H0 γ (wipe σ (own_.map (·.2))) (unT H4 D) x (by rw [eK]; exact R4.wiped hno) (by rw [eK, now]; exact dp4) (fun σ2 H2 => H2 = unT H4 D ∧ ∃ ρ2, Rep X.K (fm.at_ (k + b0 + i * b1)) H0 γ (unT H4 D) σ2 ρ2 ∧ own (fm.at_ (k + b0 + i * b1)) σ2 ρ2 = own (fm.at_ k) σ ρ ∧ wipe σ2 (own_.map (·.2)) = wipe σ (own_.map (·.2)) ∧ tt ρ2 fun z => (z = true → t ρ2 fun y => lcC g tt t (fun acc => C (.lst acc)) (wipeS ρ (own_.map (·.2))) (ds.drop (i + 1)) (acc ++ [y])) ∧ (z = false → lcC g tt t (fun acc => C (.lst acc)) (wipeS ρ (own_.map (·.2))) (ds.drop (i + 1)) acc)) fun ρ2 σ2 c r2 no2 eo ew => ⟨rfl, ρ2, by rw [← eK]; exact r2, eo.trans now, ?_, c⟩) fun σ2 H2 hn ⟨eH, ρ2, r2, eo, ew, c⟩ => ?_
    · rcases wipeS_get hs with rfl | ⟨q1, q2⟩
      · rfl
      · exact hno j hj s q1
    · rw [ew]
      apply List.ext_getElem?
      intro j
      by_cases hj : j ∈ own_.map (·.2)
      · rw [wipe_in hj, wipe_in hj, wipe_length]
      · simp only [wipe_out hj]
    · subst eH
      rw [upd_unT h4D]
      have ew' : wipe σ2 (own_.map (·.2)) = wipe σ (own_.map (·.2)) := ew
      refine ⟨ew', ?_⟩
      have tests : ∀ (Q : Bool → Hp → Prop), (∀ z H5, H5 D = none → Ext (fm.at_ (k + b0 + i * b1)) (unT H4 D) H5 → ((z = true → t ρ2 fun y => lcC g tt t (fun acc => C (.lst acc)) (wipeS ρ (own_.map (·.2))) (ds.drop (i + 1)) (acc ++ [y])) ∧ (z = false → lcC g tt t (fun acc => C (.lst acc)) (wipeS ρ (own_.map (·.2))) (ds.drop (i + 1)) acc)) → Q z (upd H5 D (.lst ws))) → wtB X scope ifs σ2 H4 Q := by
        intro Q kk
        cases ifs with
        | nil =>
          have c1 := ht X' SX' (fm.at_ 0) (fun _ => trivial) ρ2 _ c
          have := kk true (unT H4 D) unT_same .refl c1
          rw [upd_unT h4D] at this
          exact this
        | cons cc rr =>
          cases rr with
          | nil =>
            intro X2 hX2
            have eK2 := isBlk_K hX2
            have S2 := isBlk_ok S hkd hX2
            have jt : JTb fm 0 X2 cc tt := jtb_0 fun τ hτ => ht X2 S2 τ hτ
            exact wpT_hide h4D (jt (k + b0 + i * b1) (k + b0 + i * b1) (Nat.le_refl _) (Nat.le_trans (cap i hle) mx) ρ2 _ c H0 γ σ2 (unT H4 D) (by rw [eK2]; exact r2) (fun z H5 => Ext (fm.at_ (k + b0 + i * b1)) (unT H4 D) H5 ∧ _) fun z H5 c e => ⟨e, c⟩) fun z H5 hn ⟨e, c⟩ => kk z H5 hn e c
          | cons _ _ => exact (ht X' SX' (fm.at_ 0) (fun _ => trivial)).elim
      refine tests _ fun z H5 hn5 e5 c => ?_
      have h5D : (upd H5 D (.lst ws)) D = some (.lst ws) := upd_same
      have eR : Ext (fm.at_ (k + b0 + i * b1)) H1 H5 := (h2.trans (.of_same smU)).trans e5
      cases z with
      | false =>
        refine iteF ⟨hlt, acc, ws, h5D, ?_, ?_, by omega, c.2 rfl⟩
        · rw [unT_upd hn5]; exact eR.up R1i.inv (Nat.le_trans (Nat.le_add_right _ _) ei)
        · rw [unT_upd hn5]; exact dpAll_after (τ := fm.at_ (k + b0 + i * b1)) e5 dpw4
      | true =>
        refine iteT ?_
        intro X3 hX3
        have eK3 := isBlk_K hX3
        have S3 := isBlk_ok S hkd hX3
        refine wpE_hide h5D ?_ fun v H6 hn6 (h6 : ∃ d, Ext (fm.at_ (k + b0 + (i + 1) * b1)) H5 H6 ∧ Dp X.K (res H6 (own (fm.at_ k) σ ρ)) v d ∧ lcC g tt t (fun acc => C (.lst acc)) (wipeS ρ (own_.map (·.2))) (ds.drop (i + 1)) (acc ++ [d])) => ?_
        · rw [unT_upd hn5]
          refine he X3 S3 (k + b0 + i * b1) (k + b0 + (i + 1) * b1) ei (Nat.le_trans (cap (i + 1) hlt) mx) ρ2 _ (c.1 rfl) H0 γ σ2 H5 (by rw [eK3]; exact r2.after e5) _ fun d v H6 c e6 h6 => ⟨d, e6, ?_, c⟩
          rw [eK3, show own (fm.at_ (k + b0 + (i + 1) * b1)) σ2 ρ2 = own (fm.at_ k) σ ρ from eo] at h6
          exact h6
        · obtain ⟨d, e6, d6, c6⟩ := h6
          refine ⟨ws, upd_same, ?_, hlt, acc ++ [d], ws ++ [v], upd_same, ?_, ?_, ?_, c6⟩
          · rw [dpAll_len h3]; omega
          · rw [upd_upd, unT_upd hn6]; exact (eR.up R1i.inv (Nat.le_trans (Nat.le_add_right _ _) ei)).trans e6
          · rw [upd_upd, unT_upd hn6]; exact dpAll_append (dpAll_after (τ := fm.at_ (k + b0 + (i + 1) * b1)) e6 (dpAll_after (τ := fm.at_ (k + b0 + i * b1)) e5 dpw4)) (.cons d6 .nil)
          · rw [List.length_append, List.length_singleton]; omega
  · rw [List.drop_of_length_le (by omega)] at c
    have c1 := cap i hle
    have e1' : Ext (fm.at_ k') H H1 := e1.up r0.inv (by omega)
    have h2' : Ext (fm.at_ k') H1 (unT H' D) := h2.up R1i.inv c1
    refine .inl ⟨hJ.stop H' _ bo i (by omega), q (.lst acc) _ H' c ?_ ⟨D, ws, rfl, e1.fresh r0.inv hD, h1, ?_⟩⟩
    · exact (e1'.trans h2').trans (.of_same unT_le)
    · exact dpAll_same (res_mono fun b o n e => by
        have hb : b ≠ D := fun z => by rw [z, unT_same] at e; cases e
        exact ⟨fun z => z.elim n hb, unT_le b o e⟩) _ _ h3
theorem jeb_lc (own_ : List (Str × Nat)) (S : Ok cp G N sc n X) (hi : JIxb fm b0 X tg iter ti) (hg : ∀ X', Ok (capt scope) G N (relS scope sc) n X' → ∀ τ : Tn, τ.free → JGc (own_.map (·.2)) τ X' tg g) (ht : ∀ X', Ok (capt scope) G N (relS scope sc) n X' → JTsb fm X' ifs tt) (he : ∀ X', Ok (capt scope) G N (relS scope sc) n X' → JDb fm b1 X' elt t)
    (hok : blkC N sc scope own_ = true := by decide +kernel) (hs : ∀ x, foldedSetIterable iter X.env x = pure x := by intro _; rfl) : JEb fm (b0 + sizeLine * b1) X (.ListComp elt [⟨tg, iter, ifs, 0⟩] scope pos) (eLc ti g tt t (own_.map (·.2))) := fun k k' l m ρ C c H0 γ σ H r Q q =>
  wpE_of (pe_lc (own := own_) S.calm (by rw [S.eN]; exact S.nd) pi_w (by rw [S.eN, S.es]; exact blkOk_by hok) (g := wgB X scope tg) (tt := wtB X scope ifs) (te := weB X scope elt) (fun s H C cl fp => ⟨fun pins s' σ H' v u Q I rv h => pg_w.run pins s' σ H' v u Q I rv (h _ ⟨s, H, C, cl, fp, rfl⟩)⟩) pts_B (fun s H C cl fp => ⟨fun pins s' σ H' Q I h => pe_w.run pins s' σ H' Q I (h _ ⟨s, H, C, cl, fp, rfl⟩)⟩) hs)
    (lc_readB own_ S hi hg ht he (blkOk_by hok) k k' l m ρ C c H0 γ σ H r Q q)
theorem jsb_setLc {py spos : Pos} (own_ : List (Str × Nat)) (S : Ok cp G N sc n X) (i : Nat) (hi : JIxb fm b0 X tg iter ti) (hg : ∀ X', Ok (capt scope) G N (relS scope sc) n X' → ∀ τ : Tn, τ.free → JGc (own_.map (·.2)) τ X' tg g) (ht : ∀ X', Ok (capt scope) G N (relS scope sc) n X' → JTsb fm X' ifs tt) (he : ∀ X', Ok (capt scope) G N (relS scope sc) n X' → JDb fm b1 X' elt t)
    (hok : blkC N sc scope own_ = true := by decide +kernel) (hN : N[i]? = some y := by rfl) (hy : sc.names.lookup y = some .local := by rfl) (hl : (py.line == pos.line) = true := by rfl)
    (ha : (scope.names.any fun (n, k) => n == y && (k == .local || k == .cell)) = false := by decide +kernel) (hs : ∀ x, foldedSetIterable iter X.env x = pure x := by intro _; rfl) :
    JSb fm (b0 + sizeLine * b1) X (.Assign [.Name y py] (.ListComp elt [⟨tg, iter, ifs, 0⟩] scope pos) spos) (sSet i (eLc ti g tt t (own_.map (·.2)))) := fun k k' l m ρ E c H0 γ σ H r Dn d =>
  wpS_of (ps_setLc (i := i) (own := own_) S.calm (by rw [S.eN]; exact S.nd) (by rw [S.eN]; exact hN) (by rw [S.es]; exact hy) (sw_true (by rw [S.es]; exact S.kd) (by rw [S.es]; exact hy) hl ha) pi_w (by rw [S.eN, S.es]; exact blkOk_by hok) (g := wgB X scope tg) (tt := wtB X scope ifs) (te := weB X scope elt) (fun s H C cl fp => ⟨fun pins s' σ H' v u Q I rv h => pg_w.run pins s' σ H' v u Q I rv (h _ ⟨s, H, C, cl, fp, rfl⟩)⟩) pts_B (fun s H C cl fp => ⟨fun pins s' σ H' Q I h => pe_w.run pins s' σ H' Q I (h _ ⟨s, H, C, cl, fp, rfl⟩)⟩) hs)
    (lc_readB own_ S hi hg ht he (blkOk_by hok) k k' l m ρ _ c H0 γ σ H r _ fun rs v H2 c e h => d.nx _ _ H2 c ((r.up (show k ≤ k' by omega)).set e h))
end
end Pu
namespace Py
open PySem PySem.Spec PyProof.Rows L2 Pu
def top (i : Nat) : Stmt := PySem.Challenge.pw_momentyard_k96_letters_by_hand.main.body.getD i (.Pass ⟨0, 0, 0, 0⟩)
abbrev st__law_draw : Stmt := top 20
abbrev st_ends_of : Stmt := top 8
abbrev st_letters_of : Stmt := top 9
abbrev st_even_ties : Stmt := top 11
abbrev st_farthest : Stmt := top 10
abbrev st_even_far : Stmt := top 12
abbrev st_can_be_even : Stmt := top 13
abbrev st_is_whole : Stmt := top 3
abbrev st_look_writer : Stmt := top 14
abbrev st_offs_held : Stmt := top 15
abbrev st_offs_between : Stmt := top 16
abbrev st_set_right : Stmt := top 17
abbrev st_law : Stmt := top 21
abbrev st__law_town : Stmt := top 19
def dd__law_draw : He.DefD := ⟨("_law_draw", none), "_law_draw", "_law_draw", defArgs st__law_draw, defBody st__law_draw, defScope st__law_draw, [], []⟩
def dd_ends_of : He.DefD := ⟨("ends_of", none), "ends_of", "ends_of", defArgs st_ends_of, defBody st_ends_of, defScope st_ends_of, [], []⟩
def dd_letters_of : He.DefD := ⟨("letters_of", none), "letters_of", "letters_of", defArgs st_letters_of, defBody st_letters_of, defScope st_letters_of, [], []⟩
def dd_even_ties : He.DefD := ⟨("even_ties", none), "even_ties", "even_ties", defArgs st_even_ties, defBody st_even_ties, defScope st_even_ties, [], []⟩
def dd_farthest : He.DefD := ⟨("farthest", none), "farthest", "farthest", defArgs st_farthest, defBody st_farthest, defScope st_farthest, [], []⟩
def dd_even_far : He.DefD := ⟨("even_far", none), "even_far", "even_far", defArgs st_even_far, defBody st_even_far, defScope st_even_far, [], []⟩
def dd_can_be_even : He.DefD := ⟨("can_be_even", none), "can_be_even", "can_be_even", defArgs st_can_be_even, defBody st_can_be_even, defScope st_can_be_even, [], []⟩
def dd_is_whole : He.DefD := ⟨("is_whole", none), "is_whole", "is_whole", defArgs st_is_whole, defBody st_is_whole, defScope st_is_whole, [], [("least", .non), ("most", .non)]⟩
def dd_look_writer : He.DefD := ⟨("look_writer", none), "look_writer", "look_writer", defArgs st_look_writer, defBody st_look_writer, defScope st_look_writer, [], []⟩
def dd_offs_held : He.DefD := ⟨("offs_held", none), "offs_held", "offs_held", defArgs st_offs_held, defBody st_offs_held, defScope st_offs_held, [], []⟩
def dd_offs_between : He.DefD := ⟨("offs_between", none), "offs_between", "offs_between", defArgs st_offs_between, defBody st_offs_between, defScope st_offs_between, [], []⟩
def dd_set_right : He.DefD := ⟨("set_right", none), "set_right", "set_right", defArgs st_set_right, defBody st_set_right, defScope st_set_right, [], []⟩
def dd_law : He.DefD := ⟨("law", none), "law", "law", defArgs st_law, defBody st_law, defScope st_law, [], []⟩
def dd__law_town : He.DefD := ⟨("_law_town", none), "_law_town", "_law_town", defArgs st__law_town, defBody st__law_town, defScope st__law_town, [], []⟩
def fn : List He.DefD := [dd__law_draw, dd_ends_of, dd_letters_of, dd_even_ties, dd_farthest, dd_even_far, dd_can_be_even, dd_is_whole, dd_look_writer, dd_offs_held, dd_offs_between, dd_set_right, dd_law, dd__law_town]
def fa : List He.Fa := [.glo "_law_draw", .glo "ends_of", .glo "letters_of", .glo "even_ties", .glo "farthest", .glo "even_far", .glo "can_be_even", .glo "is_whole", .glo "look_writer", .glo "offs_held", .glo "offs_between", .glo "set_right", .glo "law", .glo "_law_town", .free "any", .free "bool", .free "dict", .free "enumerate", .free "int", .free "isinstance", .free "len", .free "list", .free "max", .free "min", .free "range", .free "sorted", .free "sum", .free "tuple"]
def cs : List (Str × D) := []
abbrev Rw : PySem.W.OpenRow := PySem.W.OpenLaw.row PySem.Challenge.rw_momentyard_k96_letters_by_hand
abbrev hk : PySem.W.Hook := hookP 4 fa fn cs
def ob (s : PySem.W.SharedT) : He.AlD := obsPG 4 fa fn cs (HandSHeadRun.getT s)
theorem ob_eq (s : PySem.W.SharedT) : ob s = hk.obs s.abs := obsPG_eq (HandSHeadRun.getT_eq s)
def loose : List Str := (["TimeError", "is_whole", "NoRow", "Torn", "ends_of", "letters_of", "farthest", "even_ties", "even_far", "can_be_even", "look_writer", "offs_held", "offs_between", "set_right", "_law_town"] : List Str) ++ (["_law_draw"] : List Str)
theorem run (w : World) : HandSHeadRun.RunEq Rw (PySem.W.view Rw.prog [21]) hk ob 20000 loose w := by
  intro os
  kernel_rfl
section
variable [sl : SL]
def q_is_whole_least_most : {α : Type} → List α → List α → List α → List α := fun us mv ws => us ++ (ws.drop 0).take 1 ++ (ws.drop 1).take 1
def g_is_whole_least_most : List Ar → List Ar → List Ar := fun as bs => q_is_whole_least_most as (List.replicate 0 (.dat .none)) bs
/-! _law_draw -/
def N__law_draw : List Str := ["script", "town", "many", "at", "left", "number"]
def t__law_draw : US := sSeq (sTick 1) (sSeq (sIf (b2 (fEq false) (vVar 0) (dE (eLst (fun _ C => C [])))) (sRet (eD (d2 fMod (d2 fDiv (d2 fMul (d2 fMulX (dCnt 1) (dCnt 1)) (dC (.int (7)))) (dC (.int (3)))) (vVar 2)))) (sNext)) (sSeq (sSet 3 (eD (d2 fMod (dCnt 1) (dE (eB (fLen) (lCons (vVar 0) (fun _ C => C []))))))) (sSeq (sSet 4 (eD (dRst sl.L 1 (d2 fAdd (dC (.int (1))) (vVar 3))))) (sSeq (sIf (bAnd (b2 (fGe) (d2 fIx (vVar 0) (vVar 3)) (d2 fPow (dC (.int (10))) (dC (.int (18))))) (b2 (fGtU) (vVar 4) (dC (.int (0))))) (sSeq (sRst sl.L 1 (d2 fAdd (dC (.int (1))) (vVar 3)) (d2 fDiv (vVar 4) (vVar 2))) (sRet (eD (d2 fMod (vVar 4) (vVar 2))))) (sNext)) (sSeq (sSet 5 (eD (d2 fMod (d2 fAdd (d2 fIx (vVar 0) (vVar 3)) (d2 fMul (dC (.int (104729))) (dCnt 1))) (dC (.int (4294967291)))))) (sSeq (sSet 5 (eD (d2 fMod (d2 fPow (vVar 5) (dC (.int (5)))) (dC (.int (4294967279)))))) (sRet (eD (d2 fMod (d2 fDiv (d2 fMod (d2 fAdd (d2 fMul (d2 fDiv (vVar 5) (dC (.int (64)))) (dC (.int (69621)))) (vVar 5)) (dC (.int (4294967231)))) (dC (.int (8)))) (vVar 2))))))))))
@[irreducible] def S__law_draw : Sf := sfOf N__law_draw 3 t__law_draw
/-! ends_of -/
def N_ends_of : List Str := ["rows", "kind", "found", "at", "row"]
def b_ends_of_1 : US := sIf (b2 (fEq false) (d2 fIx (vVar 4) (dC (.int (2)))) (vVar 1)) (sSetApp 2 (d2 fIx (vVar 4) (dC (.int (3)))) (dVar 3)) (sNext)
def t_ends_of : US := sSeq (sSet 2 (eDic0)) (sSeq (sFor (iEnumS (dVar 0)) (gTupl 2 (gsCons (gNam 3) (gsCons (gNam 4) (gsNil)))) b_ends_of_1) (sRetL 2))
@[irreducible] def S_ends_of : Sf := sfOf N_ends_of 2 t_ends_of
/-! letters_of -/
def N_letters_of : List Str := ["rows", "sent", "took", "letter"]
def t_letters_of : US := sSeq (sPlr2 1 2 (eCall S_ends_of (aCons (vVar 0) (aCons (dC (.str "send")) (aNil)))) (eCall S_ends_of (aCons (vVar 0) (aCons (dC (.str "take")) (aNil))))) (sRet (eLc (iSeq (dE (eSKeys 2))) (gNam 3) (bYes) (dTup (lCons (d2 fIx (dDGet 1 (dVar 3)) (dC (.int (0)))) (lCons (d2 fIx (dDGet 2 (dVar 3)) (dC (.int (0)))) (fun _ C => C [])))) [3]))
@[irreducible] def S_letters_of : Sf := sfOf N_letters_of 1 t_letters_of
/-! even_ties -/
def N_even_ties : List Str := ["log", "bounds", "least", "rows", "found", "writer", "bound", "shown", "one", "other", "pair", "by", "row"]
def b_even_ties_1 : US := sSeq (sSet 10 (eD (dTup (lCons (d2 fIx (d2 fIx (vVar 3) (vVar 9)) (dC (.int (0)))) (lCons (d2 fIx (d2 fIx (vVar 3) (vVar 8)) (dC (.int (0)))) (fun _ C => C [])))))) (sSeq (sSet 11 (eAdd (d2 fSub (vVar 2) (d2 fIx (d2 fIx (vVar 3) (vVar 9)) (dC (.int (1))))) (d2 fIx (d2 fIx (vVar 3) (vVar 8)) (dC (.int (1)))))) (sOPut 4 (dVar 10) (dE (eB (fMax2) (lCons (dOGet2 4 (dVar 10) (dVar 11)) (lCons (vVar 11) (fun _ C => C [])))))))
def b_even_ties_2 : US := sSeq (sOPut 4 (dTup (lCons (dC .none) (lCons (dVar 5) (fun _ C => C [])))) (d1 fNeg (vVar 6))) (sSeq (sOPut 4 (dTup (lCons (dVar 5) (lCons (dC .none) (fun _ C => C [])))) (d1 fNeg (vVar 6))) (sSeq (sSet 7 (eLc (iSeq (vVar 3)) (gNam 12) (b2 (fEq false) (d2 fIx (vVar 12) (dC (.int (0)))) (vVar 5)) (d2 fIx (vVar 12) (dC (.int (1)))) [12])) (sIf (b2 (fEq true) (vVar 7) (dE (eB (fSortD) (lCons (vVar 7) (fun _ C => C []))))) (sRet (eD (dC .none))) (sNext))))
def t_even_ties : US := sSeq (sAsg (dVar 0) (gTupl 3 (gsCons (gNam 1) (gsCons (gNam 2) (gsCons (gNam 3) (gsNil)))))) (sSeq (sSet 4 (eTh0 false)) (sSeq (sFor (iEnumS (dVar 1)) (gTupl 2 (gsCons (gNam 5) (gsCons (gNam 6) (gsNil)))) b_even_ties_2) (sSeq (sFor (iSeq (dE (eCall S_letters_of (aCons (vVar 3) (aNil))))) (gTupl 2 (gsCons (gNam 8) (gsCons (gNam 9) (gsNil)))) b_even_ties_1) (sRetV 4))))
@[irreducible] def S_even_ties : Sf := sfOf N_even_ties 1 t_even_ties
/-! farthest -/
def N_farthest : List Str := ["ties", "nodes", "far", "node", "middle", "one", "other", "by"]
def b_farthest_1 : US := sIf (bAnd (bOIn false 2 (dTup (lCons (dVar 5) (lCons (dVar 4) (fun _ C => C []))))) (bOIn false 2 (dTup (lCons (dVar 4) (lCons (dVar 6) (fun _ C => C [])))))) (sSeq (sSet 7 (eAdd (dOGet 2 (dTup (lCons (dVar 5) (lCons (dVar 4) (fun _ C => C []))))) (dOGet 2 (dTup (lCons (dVar 4) (lCons (dVar 6) (fun _ C => C []))))))) (sIf (b2 (fGtU) (vVar 7) (dOGet2 2 (dTup (lCons (dVar 5) (lCons (dVar 6) (fun _ C => C [])))) (d2 fSub (vVar 7) (dC (.int (1)))))) (sOPut 2 (dTup (lCons (dVar 5) (lCons (dVar 6) (fun _ C => C [])))) (dVar 7)) (sNext))) (sNext)
def b_farthest_2 : US := sFor (iSeq (dVar 1)) (gNam 6) b_farthest_1
def b_farthest_3 : US := sSeq (sFor (iSeq (dVar 1)) (gNam 5) b_farthest_2) (sIf (bTru (dE (eB (fAllB fun bs => bs.any id) (lCons (dE (eLc (iSeq (vVar 1)) (gNam 3) (bYes) (dB (b2 (fGtU) (dOGet 2 (dTup (lCons (dVar 3) (lCons (dVar 3) (fun _ C => C []))))) (dC (.int (0))))) [3])) (fun _ C => C []))))) (sRet (eD (dC .none))) (sNext))
def b_farthest_4 : US := sOPut 2 (dTup (lCons (dVar 3) (lCons (dVar 3) (fun _ C => C [])))) (dE (eB (fMax2) (lCons (dC (.int (0))) (lCons (dOGet2 2 (dTup (lCons (dVar 3) (lCons (dVar 3) (fun _ C => C [])))) (dC (.int (0)))) (fun _ C => C [])))))
def t_farthest : US := sSeq (sSet 2 (eODict 0)) (sSeq (sFor (iSeq (dVar 1)) (gNam 3) b_farthest_4) (sSeq (sFor (iSeq (dVar 1)) (gNam 4) b_farthest_3) (sRetV 2)))
@[irreducible] def S_farthest : Sf := sfOf N_farthest 2 t_farthest
/-! even_far -/
def N_even_far : List Str := ["log", "ties"]
def t_even_far : US := sSeq (sSet 1 (eCall S_even_ties (aCons (vVar 0) (aNil)))) (sRet (eIf (bIsN false 1) (eD (dC .none)) (eCall S_farthest (aTh 1 (aCons (d2 fAdd (dE (eLst (fun _ C => C [.none]))) (dE (eLRg (dE (eB (fLen) (lCons (d2 fIx (vVar 0) (dC (.int (0)))) (fun _ C => C []))))))) (aNil))))))
@[irreducible] def S_even_far : Sf := sfOf N_even_far 1 t_even_far
/-! can_be_even -/
def N_can_be_even : List Str := ["log"]
def t_can_be_even : US := sRet (eD (dB (bEIsN true (eCall S_even_far (aCons (vVar 0) (aNil))))))
@[irreducible] def S_can_be_even : Sf := sfOf N_can_be_even 1 t_can_be_even
/-! is_whole -/
def N_is_whole : List Str := ["thing", "least", "most"]
def t_is_whole : US := sSeq (sIf (bOr (bNot (bTru (d1 (fIsi "int") (vVar 0)))) (bTru (d1 (fIsi "bool") (vVar 0)))) (sRet (eD (dC (.bool false)))) (sNext)) (sRet (eD (dAnd (dOr (dB (b2 (fIs false) (vVar 1) (dC .none))) (dB (b2 (fGe) (vVar 0) (vVar 1)))) (dOr (dB (b2 (fIs false) (vVar 2) (dC .none))) (dB (b2 (fLe) (vVar 0) (vVar 2)))))))
@[irreducible] def S_is_whole : Sf := sfOf N_is_whole 3 t_is_whole
/-! look_writer -/
def N_look_writer : List Str := ["log", "number"]
def t_look_writer : US := sIf (bNot (bTru (dE (eCallK S_is_whole g_is_whole_least_most (aCons (vVar 1) (aNil)) (aCons (dC (.int (0))) (aCons (d2 fSub (dE (eB (fLen) (lCons (d2 fIx (vVar 0) (dC (.int (0)))) (fun _ C => C [])))) (dC (.int (1)))) (aNil))))))) (sNever) (sNext)
@[irreducible] def S_look_writer : Sf := sfOf N_look_writer 2 t_look_writer
/-! offs_held -/
def N_offs_held : List Str := ["log", "far"]
def t_offs_held : US := sSeq (sSet 1 (eCall S_even_far (aCons (vVar 0) (aNil)))) (sSeq (sIf (bIsN false 1) (sNever) (sNext)) (sRetV 1))
@[irreducible] def S_offs_held : Sf := sfOf N_offs_held 1 t_offs_held
/-! offs_between -/
def N_offs_between : List Str := ["log", "one", "other", "far"]
def t_offs_between : US := sSeq (sDrop (eCall S_look_writer (aCons (vVar 0) (aCons (vVar 1) (aNil))))) (sSeq (sDrop (eCall S_look_writer (aCons (vVar 0) (aCons (vVar 2) (aNil))))) (sSeq (sSet 3 (eCall S_offs_held (aCons (vVar 0) (aNil)))) (sRet (eD (dTup (lCons (dOGet 3 (dTup (lCons (dVar 1) (lCons (dVar 2) (fun _ C => C []))))) (lCons (d1 fNeg (dOGet 3 (dTup (lCons (dVar 2) (lCons (dVar 1) (fun _ C => C [])))))) (fun _ C => C []))))))))
@[irreducible] def S_offs_between : Sf := sfOf N_offs_between 3 t_offs_between
/-! set_right -/
def N_set_right : List Str := ["log", "one", "far", "spans", "middles", "bounds", "rows", "writer", "low", "high", "shown", "kind", "letter"]
def t_set_right : US := sSeq (sDrop (eCall S_look_writer (aCons (vVar 0) (aCons (vVar 1) (aNil))))) (sSeq (sSet 2 (eCall S_offs_held (aCons (vVar 0) (aNil)))) (sSeq (sSet 3 (eLc (iRange1 (dE (eB (fLen) (lCons (d2 fIx (vVar 0) (dC (.int (0)))) (fun _ C => C []))))) (gNam 7) (bYes) (dTup (lCons (dOGet 2 (dTup (lCons (dVar 1) (lCons (dVar 7) (fun _ C => C []))))) (lCons (d1 fNeg (dOGet 2 (dTup (lCons (dVar 7) (lCons (dVar 1) (fun _ C => C [])))))) (fun _ C => C [])))) [7])) (sSeq (sSet 4 (eLc (iSeq (vVar 3)) (gTupl 2 (gsCons (gNam 8) (gsCons (gNam 9) (gsNil)))) (bYes) (d2 fDiv (d2 fAdd (vVar 8) (vVar 9)) (dC (.int (2)))) [8, 9])) (sSeq (sSet 5 (eB (fTuple) (lCons (dE (eLc (iSeq (vVar 3)) (gTupl 2 (gsCons (gNam 8) (gsCons (gNam 9) (gsNil)))) (bYes) (d2 fDiv (d2 fAdd (d2 fSub (vVar 9) (vVar 8)) (dC (.int (1)))) (dC (.int (2)))) [8, 9])) (fun _ C => C [])))) (sSeq (sSet 6 (eLc (iSeq (d2 fIx (vVar 0) (dC (.int (2))))) (gTupl 4 (gsCons (gNam 7) (gsCons (gNam 10) (gsCons (gNam 11) (gsCons (gNam 12) (gsNil)))))) (bYes) (dTup (lCons (dVar 7) (lCons (d2 fSub (vVar 10) (d2 fIx (vVar 4) (vVar 7))) (lCons (dVar 11) (lCons (dVar 12) (fun _ C => C [])))))) [7, 10, 11, 12])) (sRet (eD (dTup (lCons (dVar 5) (lCons (d2 fIx (vVar 0) (dC (.int (1)))) (lCons (dE (eB (fTuple) (lCons (vVar 6) (fun _ C => C [])))) (fun _ C => C []))))))))))))
@[irreducible] def S_set_right : Sf := sfOf N_set_right 2 t_set_right
/-! law -/
def N_law : List Str := ["script", "town", "least", "ways_now", "off", "begun", "met", "answered", "home", "rows", "log", "low", "high", "told", "room_now", "narrow", "edge", "k"]
def q_law_1 : US := sRet (eD (dB (b2 (fIs false) (dE (eCall S_can_be_even (aCons (dTup (lCons (dC (.tuple [.int (1000), .int (1000)])) (lCons (d2 fAdd (d2 fSub (vVar 8) (vVar 5)) (dC (.int (1)))) (lCons (d2 fIx (vVar 10) (dC (.int (2)))) (fun _ C => C []))))) (aNil)))) (dC (.bool false)))))
def q_law_2 : US := sSeq (sSet 15 (eD (dTup (lCons (dC (.tuple [.int (0), .int (1)])) (lCons (dVar 2) (lCons (d2 fIx (vVar 10) (dC (.int (2)))) (fun _ C => C []))))))) (sSeq (sSet 16 (eD (dTup (lCons (dE (eB (fMax2) (lCons (d1 fNeg (dC (.int (1)))) (lCons (vVar 11) (fun _ C => C []))))) (lCons (dE (eB (fMin2) (lCons (dC (.int (1))) (lCons (vVar 12) (fun _ C => C []))))) (fun _ C => C [])))))) (sSeq (sIf (b2 (fEq true) (dB (b2 (fIs false) (dE (eCall S_can_be_even (aCons (vVar 15) (aNil)))) (dC (.bool true)))) (dB (b2 (fLe) (d2 fIx (vVar 16) (dC (.int (0)))) (d2 fIx (vVar 16) (dC (.int (1))))))) (sRet (eD (dC (.bool false)))) (sNext)) (q_law_1)))
def q_law_3 : US := sSeq (sIf (bAnd (b2 (fEq false) (d2 fIx (vVar 3) (dC (.int (0)))) (d2 fIx (vVar 3) (dC (.int (1))))) (b2 (fEq true) (d2 fIx (d2 fIx (d2 fIx (vVar 13) (dC (.int (2)))) (dC (.int (1)))) (dC (.int (1)))) (vVar 6))) (sRet (eD (dC (.bool false)))) (sNext)) (q_law_2)
def q_law_4 : US := sSeq (sSet 13 (eCall S_set_right (aCons (vVar 10) (aCons (dC (.int (0))) (aNil))))) (sSeq (sSet 14 (eD (d2 fSub (dE (eB (fSum) (lCons (vVar 3) (fun _ C => C [])))) (d2 fMul (dC (.int (2))) (vVar 2))))) (sSeq (sIf (b2 (fEq true) (d2 fIx (vVar 13) (dC (.int (0)))) (dTup (lCons (dC (.int (0))) (lCons (d2 fDiv (d2 fAdd (vVar 14) (dC (.int (1)))) (dC (.int (2)))) (fun _ C => C []))))) (sRet (eD (dC (.bool false)))) (sNext)) (q_law_3)))
def t_law : US := sSeq (sSet 2 (eCall S__law_draw (aCons (vVar 0) (aTown 1 (aCons (dC (.int (5))) (aNil)))))) (sSeq (sSet 3 (eLc (iRange1 (dC (.int (2)))) (gNam 17) (bYes) (d2 fAdd (vVar 2) (dE (eCall S__law_draw (aCons (vVar 0) (aTown 1 (aCons (dC (.int (20))) (aNil))))))) [17])) (sSeq (sSet 4 (eD (d2 fSub (dE (eCall S__law_draw (aCons (vVar 0) (aTown 1 (aCons (dC (.int (201))) (aNil)))))) (dC (.int (100)))))) (sSeq (sSet 5 (eD (d2 fAdd (dC (.int (1000))) (dE (eCall S__law_draw (aCons (vVar 0) (aTown 1 (aCons (dC (.int (100))) (aNil))))))))) (sSeq (sSet 6 (eAdd (vVar 5) (d2 fIx (vVar 3) (dC (.int (0)))))) (sSeq (sSet 7 (eD (d2 fAdd (vVar 6) (dE (eCall S__law_draw (aCons (vVar 0) (aTown 1 (aCons (dC (.int (9))) (aNil))))))))) (sSeq (sSet 8 (eAdd (vVar 7) (d2 fIx (vVar 3) (dC (.int (1)))))) (sSeq (sSet 9 (eLst (lCons (dTup (lCons (dC (.int (0))) (lCons (dVar 5) (lCons (dC (.str "send")) (lCons (dC (.str "there")) (fun _ C => C [])))))) (lCons (dTup (lCons (dC (.int (1))) (lCons (d2 fAdd (vVar 6) (vVar 4)) (lCons (dC (.str "take")) (lCons (dC (.str "there")) (fun _ C => C [])))))) (lCons (dTup (lCons (dC (.int (1))) (lCons (d2 fAdd (vVar 7) (vVar 4)) (lCons (dC (.str "send")) (lCons (dC (.str "back")) (fun _ C => C [])))))) (fun _ C => C [])))))) (sSeq (sSet 10 (eD (dTup (lCons (dC (.tuple [.int (1000), .int (1000)])) (lCons (dVar 2) (lCons (dE (eB (fTuple) (lCons (d2 fAdd (vVar 9) (dE (eLst (lCons (dTup (lCons (dC (.int (0))) (lCons (dVar 8) (lCons (dC (.str "take")) (lCons (dC (.str "back")) (fun _ C => C [])))))) (fun _ C => C []))))) (fun _ C => C [])))) (fun _ C => C []))))))) (sSeq (sAsg (dE (eCall S_offs_between (aCons (vVar 10) (aCons (dC (.int (0))) (aCons (dC (.int (1))) (aNil)))))) (gTupl 2 (gsCons (gNam 11) (gsCons (gNam 12) (gsNil))))) (sSeq (sIf (b2 (fEq true) (dTup (lCons (dVar 11) (lCons (dVar 12) (fun _ C => C [])))) (dTup (lCons (d2 fAdd (d2 fSub (vVar 4) (d2 fIx (vVar 3) (dC (.int (1))))) (vVar 2)) (lCons (d2 fSub (d2 fAdd (vVar 4) (d2 fIx (vVar 3) (dC (.int (0))))) (vVar 2)) (fun _ C => C []))))) (sRet (eD (dC (.bool false)))) (sNext)) (q_law_4)))))))))))
/-! _law_town -/
def N__law_town : List Str := ["script"]
def t__law_town : US := sRet (eAdd (dE (eLst (fun _ C => C [.int (0)]))) (dE (eB (fList) (lCons (vVar 0) (fun _ C => C [])))))
@[irreducible] def S__law_town : Sf := sfOf N__law_town 1 t__law_town
local macro_rules | `(tactic| walk_at "pu") => `(tactic| try simp -implicitDefEqProofs only [c_sfOf, en0, Ar.sl, List.map_cons, List.map_nil, List.length_cons, List.length_nil, List.replicate, List.cons_append, List.nil_append, List.set_cons_zero, List.set_cons_succ, List.set_nil, List.getElem?_cons_zero, List.getElem?_cons_succ, List.getElem?_nil, List.drop_zero, List.drop_succ_cons, List.drop_nil, List.take_zero, List.take_succ_cons, List.take_nil, List.append_nil, Nat.reduceAdd, Nat.reduceSub, Nat.zero_add, true_and, and_true, false_and, and_false, q_sl_d, q_sl_l, q_lf_d, q_lf_l, lf, lfAll, lf_app, cut_f1, cut_f2, cut_f3, cut_t1, cut_t2, cut_t3, cut_f4, cut_f5, cut_f6, cut_f7, cut_f8, cut_t4, cut_t5, cut_t6, cut_t7, cut_t8, Bool.and_true, Bool.true_and, c_sNext, c_sSeq, c_sNever, c_sBreak, c_sCont, c_sDrop, c_sRet, c_sRetN, c_sIf, c_sSet, c_gNam, c_gsNil, c_gsCons, c_gTupl, c_sAsg, c_sPar2, c_sPar3, c_sExtend, c_sFor, c_sFrz, c_iSeq, c_iRange1, c_iRange2, c_iEnumS, c_iZip2, c_eLc, wipeS, bYes, c_eD, c_dE, c_lCons, q_vVar, q_dVar, vSl_d, vSl_l, dSl_d, q_retV, rSl_d, rSl_l, q_aug, aSl_d, lSl_l, q_append, q_pop, c_dC, c_dTup, c_eLst, c_d2, c_d1, c_dB, c_b2, c_b3, c_bTru, c_bAnd, c_bOr, c_bNot, c_dAnd, c_dOr, c_dNot, c_eIf, c_dIf, c_oNone, c_eCut, c_aNil, c_aCons, c_aTown, c_eCall, c_eCallK, c_eB, c_sTick, c_dCount, c_dRest, c_sRest, ixC_some, ixC_none, q_add_i, q_add_s, q_add_t, q_add_l, q_rep, c_gLstl, q_sorted, c_eAdd, q_adde_i, q_adde_s, q_adde_t, q_adde_l, q_min_t, q_min_l, q_max_t, q_max_l, q_sub, q_int, q_i0, q_neg, q_ord, q_lt_i, q_lt_s, q_lt_t, q_gt_i, q_gt_t, q_ix_t, q_ix_l, q_eqf_i, q_eqt_i, q_is_nn, q_is_in, q_is_sn, q_is_ln, q_is_tn, q_is_bn, q_is_bb, q_in_t, q_in_l, q_in_s, q_bk, q_cut_l, q_cut_t, q_cut_s, q_osome, q_len_l, q_len_t, q_len_s, q_i1, q_i2, q_tup_l, q_tup_t, q_list_l, q_list_t, q_divmod, q_int1_i, q_int1_b, q_sum_l, q_sum_t, q_all, q_cold_d, q_cold_l, q_seq_l, q_seq0_l, q_seq0_t, q_seq_s, q_seq_t, q_zip_l, q_zip_t, q_zip_m, q_tru_b, q_tru_i, q_tru_l, q_tru_t, q_own_nil, q_own_cons, ownN_un, ownN_dat, ownN_town, ownN_none, at0, at1, at2, at3, at4, PyData.int.injEq, exists_eq_left', exists_eq_left, q_isi, tyName, kit_NoneType_bool, kit_NoneType_int, kit_NoneType_str, kit_NoneType_list, kit_NoneType_tuple, kit_bool_bool, kit_bool_int, kit_bool_str, kit_bool_list, kit_bool_tuple, kit_int_bool, kit_int_int, kit_int_str, kit_int_list, kit_int_tuple, kit_str_bool, kit_str_int, kit_str_str, kit_str_list, kit_str_tuple, kit_list_bool, kit_list_int, kit_list_str, kit_list_list, kit_list_tuple, kit_tuple_bool, kit_tuple_int, kit_tuple_str, kit_tuple_list, kit_tuple_tuple, Bool.not_true, Bool.not_false, forall_const, false_implies, true_implies, reduceCtorEq, eq_self, Bool.not_eq_true', Bool.not_eq_false', decide_eq_true_eq, decide_eq_false_iff_not, if_true, if_false, ite_true, ite_false, Bool.false_eq_true, if_pos, Bool.not_not, not_true_eq_false, not_false_eq_true, tSl_t, xRs_l, frSl_l, frSl_d, Option.some.injEq, c_eRev, c_sPlr2, c_dCnt, c_dRst, c_sRst, c_eSKeys, c_sRetL, rtLs_m, rtLs_d, sl_dll, lf_dll, c_sSetApp, c_eLRg, c_dOGet, c_bOIn, c_dOGet2, c_sOPut, c_bIsN, c_bEIsN, c_eODict, odT_t, c_aTh, c_aThE, thR_h, c_eTh0, oSl_h, oSl_v, oSl_l, hSl_h, isN_n, isN_i, isN_t, nSl_d, nSl_s, nSl_h, nSl_v, nSl_l, rN_d, rN_h, rSl_h, sl_th, lf_th, cond_true, cond_false, c_eDic0, c_eNo, c_iRangeN, c_sDPutD, c_sDUpd, c_eSortK, c_dDGet, q_dictp, kSl_d, kRs_d, sl_dic, q_rev_l, q_rev_t, q_sortd_l, q_sortd_t])
theorem cmul_r {i j : Int} (h1 : -1000000000000000000 ≤ j) (h2 : j ≤ 1000000000000000000) : CMul i j := .inr ⟨by omega, by omega⟩
theorem cmul_l {i j : Int} (h1 : -1000000000000000000 ≤ i) (h2 : i ≤ 1000000000000000000) : CMul i j := .inl ⟨by omega, by omega⟩
def optD : Option Int → D
  | none => .none
  | some l => .int l
def wholeB (i : Int) : Option Int → Option Int → Bool
  | none, none => true
  | some l, none => decide (l ≤ i)
  | none, some h => decide (i ≤ h)
  | some l, some h => decide (l ≤ i) && decide (i ≤ h)
theorem m_is_whole {i : Int} {lo hi : Option Int} {C : Rs → Prop} (hc : C (.dat (.bool (wholeB i lo hi)))) : S_is_whole [.dat (.int i), .dat (optD lo), .dat (optD hi)] C := by
  unfold S_is_whole t_is_whole N_is_whole
  cases lo <;> cases hi <;> simp only [optD] <;> walk_at "pu" <;> unfold wholeB at hc
  · exact hc
  · exact hc
  · exact ⟨fun h => by simpa [h] using hc, fun h => by simpa [h] using hc⟩
  · exact ⟨fun h => by simpa [h] using hc, fun h => by simpa [h] using hc⟩

theorem cnt_mul {c e : Int} (h0 : 0 ≤ c) (h1 : c ≤ (kMax : Int)) (h2 : 0 ≤ e) (h3 : e ≤ (kMax : Int)) : CMulX c e := by
  have hk : kMax < 2 ^ 4097 := Nat.pow_lt_pow_right (by decide) (by decide)
  have k1 : c.natAbs < 2 ^ 4097 := by
    generalize (2 : Nat) ^ 4097 = w at hk
    generalize kMax = v at h1 hk
    omega
  have k2 : e.natAbs < 2 ^ 4097 := by
    generalize (2 : Nat) ^ 4097 = w at hk
    generalize kMax = v at h3 hk
    omega
  exact mulx_ok k1 k2 (by decide)
theorem draw_tail {many : Int} {C : Rs → Prop} (h0 : 0 < many) (hC : ∀ r, 0 ≤ r → r < many → C (.dat (.int r))) (rest count : Int) :
    CMul 104729 count ∧ 0 < (4294967291 : Int) ∧ CPow ((rest + 104729 * count) % 4294967291) 5 ∧ 0 < (4294967279 : Int) ∧ CDiv (((rest + 104729 * count) % 4294967291) ^ Int.toNat 5 % 4294967279) 64 ∧
      CMul (((rest + 104729 * count) % 4294967291) ^ Int.toNat 5 % 4294967279 / 64) 69621 := by
  refine ⟨cmul_l (by omega) (by omega), by decide, ⟨by decide, by decide, ?_⟩, by decide, ⟨by decide, by decide⟩, cmul_r (by decide) (by decide)⟩
  omega
theorem m_draw {ns : List Int} {many : Int} {C : Rs → Prop} (hl : ns.length ≤ 63) (hL : sl.L = ns.length) (h0 : 0 < many) (h1 : many < 1073741824) (hC : ∀ r, 0 ≤ r → r < many → C (.dat (.int r))) : S__law_draw [.dat (scrD ns), .town, .dat (.int many)] C := by
  unfold S__law_draw t__law_draw N__law_draw scrD
  have last : ∀ n : Int, C (.dat (.int (n % many))) := fun n => hC _ (Int.emod_nonneg _ (by omega)) (Int.emod_lt_of_pos _ h0)
  walk_at "pu"
  have tl := draw_tail (C := C) h0 hC
  have d8 : ∀ i : Int, CDiv i 8 := fun i => ⟨by decide, by decide⟩
  have p1 : CPow 10 18 := ⟨by decide, by decide, by decide⟩
  have shI : ∀ l : List Int, shAll 31 (l.map PyData.int) = true := fun l => by
    induction l with
    | nil => rfl
    | cons a l ih => simp only [List.map_cons, shAll, ih, Bool.and_true]; rfl
  refine ⟨by simp only [sh]; exact shI ns, by decide, fun _ => ?_, fun he => ?_⟩
  · intro c c0 c1 e e0 e1
    exact ⟨cnt_mul c0 c1 e0 e1, cmul_r (by decide) (by decide), ⟨by decide, by decide⟩, h0, last _⟩
  · intro c c0 c1
    have hlen : 0 < ((List.map PyData.int ns).length : Int) := by
      cases ns with
      | nil => simp [PyData.eqv, PyData.eqvAll] at he
      | cons a b => simp
    have hlt : c % ((List.map PyData.int ns).length : Int) < ((List.map PyData.int ns).length : Int) := Int.emod_lt_of_pos _ hlen
    have hge : 0 ≤ c % ((List.map PyData.int ns).length : Int) := Int.emod_nonneg _ (by omega)
    have hml : (List.map PyData.int ns).length = ns.length := List.length_map ..
    refine ⟨hlen, ?_⟩
    generalize hk : c % ((List.map PyData.int ns).length : Int) = k at hlt hge ⊢
    obtain ⟨j, rfl⟩ : ∃ j : Nat, k = (j : Int) := ⟨k.toNat, by omega⟩
    have hj : j < ns.length := by omega
    rw [atI_nat (v := PyData.int ns[j]) (by simp [hj])]
    refine ⟨j, by omega, by omega, fun v => ?_⟩
    walk_at "pu"
    have fin : ∀ cc : Int, 0 ≤ cc → cc ≤ (kMax : Int) → CMul 104729 cc ∧ 0 < (4294967291 : Int) ∧ CPow ((ns[j] + 104729 * cc) % 4294967291) 5 ∧ 0 < (4294967279 : Int) ∧ CDiv (((ns[j] + 104729 * cc) % 4294967291) ^ Int.toNat 5 % 4294967279) 64 ∧
        CMul (((ns[j] + 104729 * cc) % 4294967291) ^ Int.toNat 5 % 4294967279 / 64) 69621 ∧ 0 < (4294967231 : Int) ∧
        CDiv ((((ns[j] + 104729 * cc) % 4294967291) ^ Int.toNat 5 % 4294967279 / 64 * 69621 + ((ns[j] + 104729 * cc) % 4294967291) ^ Int.toNat 5 % 4294967279) % 4294967231) 8 ∧ 0 < many ∧
        C (Rs.dat (PyData.int ((((ns[j] + 104729 * cc) % 4294967291) ^ Int.toNat 5 % 4294967279 / 64 * 69621 + ((ns[j] + 104729 * cc) % 4294967291) ^ Int.toNat 5 % 4294967279) % 4294967231 / 8 % many))) := fun cc _ _ => by
      obtain ⟨t1, t2, t3, t4, t5, t6⟩ := tl ns[j] cc
      exact ⟨t1, t2, t3, t4, t5, t6, by decide, d8 _, h0, last _⟩
    exact ⟨p1, fun _ => ⟨fun _ => ⟨⟨h0, h1⟩, j, by omega, by omega, h0, last _⟩, fun _ => fin⟩, fun _ => fin⟩
theorem town_m (ns : List Int) (hl : ns.length ≤ 63) : eCall S__law_town (aCons (vVar 0) aNil) (en0 N_law [.dat (scrD ns)]) fun r => r = .lst (.int 0 :: ns.map PyData.int) := by
  unfold N_law scrD
  walk_at "pu"
  unfold S__law_town t__law_town N__law_town
  walk_at "pu"
  refine ⟨by rw [List.length_map]; omega, ?_⟩
  induction ns with
  | nil => rfl
  | cons a l ih => simp only [List.map_cons, lfAll, ih (by simp at hl; omega), Bool.and_true]; rfl
/-! ties, walks along them, and how far each is behind each: the table of farthest -/
theorem nd_len {α : Type} [DecidableEq α] : ∀ (l m : List α), l.Nodup → (∀ x ∈ l, x ∈ m) → l.length ≤ m.length
  | [], _, _, _ => Nat.zero_le _
  | x :: l, m, h, hs => by
    have hx := hs x (by simp)
    have := nd_len l (m.erase x) (List.nodup_cons.mp h).2 fun y hy => (List.mem_erase_of_ne (fun e => by subst e; exact (List.nodup_cons.mp h).1 hy)).mpr (hs y (by simp [hy]))
    rw [List.length_erase_of_mem hx] at this
    have hp : 0 < m.length := List.length_pos_of_mem hx
    rw [List.length_cons]
    omega
abbrev Far := OI → OI → Option Int
abbrev Tie := OI → OI → Int → Prop
inductive Wk (C : Tie) : OI → OI → Int → Prop
  | nil {a : OI} : Wk C a a 0
  | snoc {a b c : OI} {u v : Int} : Wk C a b u → C b c v → Wk C a c (u + v)
theorem Wk.one {C : Tie} {a b : OI} {u : Int} (h : C a b u) : Wk C a b u := by
  have := Wk.snoc (Wk.nil (C := C) (a := a)) h
  rwa [Int.zero_add] at this
theorem Wk.app {C : Tie} {a b : OI} {u : Int} (h : Wk C a b u) {c : OI} {v : Int} (h2 : Wk C b c v) : Wk C a c (u + v) := by
  induction h2 with
  | nil => rwa [Int.add_zero]
  | snoc _ t ih =>
    have := Wk.snoc ih t
    rwa [Int.add_assoc] at this
/-- numbers that keep all ties -/
def Pot (C : Tie) (φ : OI → Int) : Prop := ∀ a b w, C a b w → φ a + w ≤ φ b
theorem Wk.pot {C : Tie} {φ : OI → Int} (hp : Pot C φ) {a b : OI} {u : Int} (h : Wk C a b u) : φ a + u ≤ φ b := by
  induction h with
  | nil => omega
  | snoc _ t ih =>
    have := hp _ _ _ t
    omega
structure DtOk (ns : List OI) (ys : List (List OI × D)) (f : Far) : Prop where
  get : ∀ a b, getA ys [a, b] = (f a b).map PyData.int
  nd : (ys.map (·.1)).Nodup
  keys : ∀ p ∈ ys, ∃ a b, p.1 = [a, b] ∧ a ∈ ns ∧ b ∈ ns
  vals : ∀ p ∈ ys, ∃ w : Int, p.2 = .int w
theorem getA_put {α : Type} [DecidableEq α] {k : α} {d : D} : ∀ {ys : List (α × D)} {j : α}, getA (putT ys k d) j = if j = k then some d else getA ys j := by
  intro ys j
  unfold putT
  by_cases h : (ys.any fun kv => decide (kv.1 = k)) = true
  · rw [if_pos h]
    by_cases hj : j = k
    · subst hj
      rw [if_pos rfl]
      unfold getA
      induction ys with
      | nil => cases h
      | cons p ys ih =>
        rw [List.map_cons, List.find?_cons]
        by_cases hp : p.1 = j
        · rw [if_pos hp]
          simp [hp]
        · rw [if_neg hp]
          simp only [hp, decide_false]
          rw [List.any_cons, decide_eq_false hp, Bool.false_or] at h
          exact ih h
    · rw [if_neg hj]
      unfold getA
      clear h
      induction ys with
      | nil => rfl
      | cons p ys ih =>
        rw [List.map_cons, List.find?_cons, List.find?_cons]
        by_cases hp : p.1 = k
        · rw [if_pos hp]
          have : ¬ p.1 = j := fun e => hj (e.symm.trans hp)
          simp only [this, decide_false]
          exact ih
        · rw [if_neg hp]
          by_cases hq : p.1 = j
          · simp only [hq, decide_true]
          · simp only [hq, decide_false]
            exact ih
  · rw [if_neg h]
    have hn : ∀ p ∈ ys, ¬ p.1 = k := fun p hp e => h (List.any_eq_true.mpr ⟨p, hp, by simp [e]⟩)
    unfold getA
    rw [List.find?_append]
    by_cases hj : j = k
    · subst hj
      rw [if_pos rfl, List.find?_eq_none.mpr fun p hp => by simpa using hn p hp]
      simp
    · rw [if_neg hj]
      cases ys.find? (fun p => decide (p.1 = j)) with
      | some q => rfl
      | none =>
        have : ¬ k = j := fun e => hj e.symm
        simp [this]
theorem putT_vals {α : Type} [DecidableEq α] {k : α} {d : D} {ys : List (α × D)} : ∀ p ∈ putT ys k d, p.2 = d ∨ p ∈ ys := by
  unfold putT
  intro p hp
  split at hp
  · obtain ⟨q, hq, rfl⟩ := List.mem_map.mp hp
    by_cases h : q.1 = k
    · rw [if_pos h]
      exact .inl rfl
    · rw [if_neg h]
      exact .inr hq
  · rcases List.mem_append.mp hp with hp | hp
    · exact .inr hp
    · rw [List.mem_singleton.mp hp]
      exact .inl rfl
theorem putT_keys {α : Type} [DecidableEq α] {k : α} {d : D} {ys : List (α × D)} (h : (ys.map (·.1)).Nodup) : ((putT ys k d).map (·.1)).Nodup ∧ ∀ p ∈ putT ys k d, p.1 = k ∨ ∃ q ∈ ys, q.1 = p.1 := by
  unfold putT
  by_cases hc : (ys.any fun kv => decide (kv.1 = k)) = true
  · rw [if_pos hc]
    have e : (ys.map fun kv => if kv.1 = k then (kv.1, d) else kv).map (·.1) = ys.map (·.1) := by
      rw [List.map_map]
      refine List.map_congr_left fun p _ => ?_
      show (if p.1 = k then (p.1, d) else p).1 = p.1
      by_cases hp : p.1 = k
      · rw [if_pos hp]
      · rw [if_neg hp]
    refine ⟨by rw [e]; exact h, fun p hp => .inr ?_⟩
    obtain ⟨q, hq, rfl⟩ := List.mem_map.mp hp
    refine ⟨q, hq, ?_⟩
    by_cases hp : q.1 = k
    · rw [if_pos hp]
    · rw [if_neg hp]
  · rw [if_neg hc]
    have hn : k ∉ ys.map (·.1) := fun hm => by
      obtain ⟨p, hp, e⟩ := List.mem_map.mp hm
      exact hc (List.any_eq_true.mpr ⟨p, hp, by simp [e]⟩)
    refine ⟨?_, fun p hp => ?_⟩
    · rw [List.map_append, List.map_cons, List.map_nil, List.nodup_append]
      exact ⟨h, by simp, fun x hx y hy e => hn (by rw [e, List.mem_singleton.mp hy] at hx; exact hx)⟩
    · rcases List.mem_append.mp hp with hp | hp
      · exact .inr ⟨p, hp, rfl⟩
      · rw [List.mem_singleton.mp hp]
        exact .inl rfl
def fset (f : Far) (a b : OI) (w : Int) : Far := fun x y => if x = a ∧ y = b then some w else f x y
theorem fset_at {f : Far} {a b : OI} {w : Int} : fset f a b w a b = some w := by simp [fset]
theorem fset_ne {f : Far} {a b x y : OI} {w : Int} (h : ¬ (x = a ∧ y = b)) : fset f a b w x y = f x y := by simp [fset, h]
theorem DtOk.put {ns : List OI} {ys : List (List OI × D)} {f : Far} (h : DtOk ns ys f) {a b : OI} (ha : a ∈ ns) (hb : b ∈ ns) {w : Int} : DtOk ns (putT ys [a, b] (.int w)) (fset f a b w) where
  get x y := by
    rw [getA_put]
    unfold fset
    by_cases e : x = a ∧ y = b
    · rw [if_pos (by rw [e.1, e.2]), if_pos e]
      rfl
    · rw [if_neg (fun z => e (by injection z with z1 z2; injection z2 with z2; exact ⟨z1, z2⟩)), if_neg e]
      exact h.get x y
  nd := (putT_keys h.nd).1
  keys p hp := by
    rcases (putT_keys h.nd).2 p hp with e | ⟨q, hq, e⟩
    · exact ⟨a, b, e, ha, hb⟩
    · rw [← e]
      exact h.keys q hq
  vals p hp := by
    rcases putT_vals p hp with e | e
    · exact ⟨w, e⟩
    · exact h.vals p e
theorem DtOk.len {ns : List OI} {ys : List (List OI × D)} {f : Far} (h : DtOk ns ys f) : ys.length ≤ ns.length * ns.length := by
  have e : (ns.flatMap fun a => ns.map fun b => [a, b]).length = ns.length * ns.length := by
    rw [List.length_flatMap]
    have : (ns.map fun a => (ns.map fun b => [a, b]).length) = ns.map fun _ => ns.length := by simp
    rw [this, List.map_const', List.sum_replicate_nat]
  rw [← e, ← List.length_map (f := fun p : List OI × D => p.1)]
  refine nd_len _ _ h.nd fun k hk => ?_
  obtain ⟨p, hp, rfl⟩ := List.mem_map.mp hk
  obtain ⟨a, b, e, ha, hb⟩ := h.keys p hp
  show p.1 ∈ _
  rw [e]
  exact List.mem_flatMap.mpr ⟨a, ha, List.mem_map.mpr ⟨b, hb, rfl⟩⟩
theorem DtOk.inn {ns : List OI} {ys : List (List OI × D)} {f : Far} (h : DtOk ns ys f) {a b : OI} {w : Int} (e : f a b = some w) : a ∈ ns ∧ b ∈ ns := by
  have h1 := h.get a b
  rw [e] at h1
  unfold getA at h1
  cases h2 : ys.find? (fun p => decide (p.1 = [a, b])) with
  | none => rw [h2] at h1; cases h1
  | some p =>
    have h3 := List.find?_some h2
    obtain ⟨x, y, e1, hx, hy⟩ := h.keys p (List.mem_of_find?_eq_some h2)
    rw [of_decide_eq_true h3] at e1
    injection e1 with e1 e2
    injection e2 with e2
    subst e1 e2
    exact ⟨hx, hy⟩
/-- a middle's turn -/
def mx (f : Far) (k a b : OI) : Option Int := match f a k, f k b with
  | some u, some v => match f a b with
    | some w => some (max w (u + v))
    | none => some (u + v)
  | _, _ => f a b
theorem mx_l {f : Far} {k a : OI} (h : f k k = some 0) : mx f k a k = f a k := by
  unfold mx
  rw [h]
  cases f a k with
  | none => rfl
  | some u => simp
theorem mx_r {f : Far} {k b : OI} (h : f k k = some 0) : mx f k k b = f k b := by
  unfold mx
  rw [h]
  cases f k b with
  | none => rfl
  | some u => simp
theorem mx_ge {f : Far} {k a b : OI} {w : Int} (h : f a b = some w) : ∃ v, mx f k a b = some v ∧ w ≤ v := by
  unfold mx
  rw [h]
  split
  · exact ⟨_, rfl, by omega⟩
  · exact ⟨w, rfl, by omega⟩
theorem mx_sum {f : Far} {k a b : OI} {u v : Int} (h1 : f a k = some u) (h2 : f k b = some v) : ∃ t, mx f k a b = some t ∧ u + v ≤ t := by
  unfold mx
  rw [h1, h2]
  dsimp only
  cases f a b with
  | none => exact ⟨_, rfl, by omega⟩
  | some w => exact ⟨_, rfl, by omega⟩
theorem mx_cases {f : Far} {k a b : OI} {w : Int} (h : mx f k a b = some w) : f a b = some w ∨ ∃ u v, f a k = some u ∧ f k b = some v ∧ w = u + v := by
  unfold mx at h
  split at h
  · rename_i u v hu hv
    split at h
    · rename_i z hz
      have := Option.some.inj h
      rcases Int.le_total z (u + v) with c | c
      · exact .inr ⟨u, v, hu, hv, by omega⟩
      · exact .inl (by rw [hz]; congr 1; omega)
    · exact .inr ⟨u, v, hu, hv, (Option.some.inj h).symm⟩
  · exact .inl h
/-- a sum over each of these middles is no more than what stands -/
def Tri (f : Far) (ms : List OI) : Prop := ∀ m ∈ ms, ∀ a b u v, f a m = some u → f m b = some v → ∃ t, f a b = some t ∧ u + v ≤ t
theorem tri_mx {f g : Far} {ms : List OI} {k : OI} (hk : f k k = some 0) (hm : ∀ m ∈ ms, f m m = some 0) (h : Tri f ms) (hg : ∀ a b, g a b = mx f k a b) : Tri g (ms ++ [k]) := by
  intro m hmm a b u v h1 h2
  rw [hg] at h1 h2 ⊢
  rcases List.mem_append.mp hmm with hmm | hmm
  · rcases mx_cases h1 with c1 | ⟨u1, u2, c1, c2, rfl⟩
    · rcases mx_cases h2 with d1 | ⟨v1, v2, d1, d2, rfl⟩
      · obtain ⟨t, ht, l⟩ := h m hmm a b u v c1 d1
        obtain ⟨t2, ht2, l2⟩ := mx_ge (k := k) ht
        exact ⟨t2, ht2, by omega⟩
      · obtain ⟨t, ht, l⟩ := h m hmm a k u v1 c1 d1
        obtain ⟨t2, ht2, l2⟩ := mx_sum ht d2
        exact ⟨t2, ht2, by omega⟩
    · rcases mx_cases h2 with d1 | ⟨v1, v2, d1, d2, rfl⟩
      · obtain ⟨t, ht, l⟩ := h m hmm k b u2 v c2 d1
        obtain ⟨t2, ht2, l2⟩ := mx_sum c1 ht
        exact ⟨t2, ht2, by omega⟩
      · obtain ⟨t, ht, l⟩ := h m hmm k k u2 v1 c2 d1
        rw [hk] at ht
        cases ht
        obtain ⟨t2, ht2, l2⟩ := mx_sum c1 d2
        exact ⟨t2, ht2, by omega⟩
  · rw [List.mem_singleton.mp hmm] at h1 h2
    rw [mx_l hk] at h1
    rw [mx_r hk] at h2
    exact mx_sum h1 h2
def Mono (f g : Far) : Prop := ∀ a b u, f a b = some u → ∃ v, g a b = some v ∧ u ≤ v
theorem Mono.refl {f : Far} : Mono f f := fun _ _ u h => ⟨u, h, Int.le_refl _⟩
theorem Mono.trans {f g h : Far} (a : Mono f g) (b : Mono g h) : Mono f h := fun x y u e => by
  obtain ⟨v, e1, l1⟩ := a x y u e
  obtain ⟨w, e2, l2⟩ := b x y v e1
  exact ⟨w, e2, by omega⟩
theorem Mono.fset {f : Far} {a b : OI} {w : Int} (h : ∀ u, f a b = some u → u ≤ w) : Mono f (fset f a b w) := fun x y u e => by
  by_cases c : x = a ∧ y = b
  · obtain ⟨rfl, rfl⟩ := c
    exact ⟨w, fset_at, h u e⟩
  · exact ⟨u, by rw [fset_ne c]; exact e, Int.le_refl _⟩
def Snd (C : Tie) (f : Far) : Prop := ∀ a b w, f a b = some w → Wk C a b w
theorem Snd.fset {C : Tie} {f : Far} (h : Snd C f) {a b : OI} {w : Int} (hw : Wk C a b w) : Snd C (fset f a b w) := fun x y u e => by
  by_cases c : x = a ∧ y = b
  · obtain ⟨rfl, rfl⟩ := c
    rw [fset_at] at e
    cases e
    exact hw
  · rw [fset_ne c] at e
    exact h x y u e
/-- the table that farthest tells -/
structure FarOk (C : Tie) (ns : List OI) (f : Far) : Prop where
  diag : ∀ a ∈ ns, f a a = some 0
  tri : ∀ a b c u v, f a b = some u → f b c = some v → ∃ t, f a c = some t ∧ u + v ≤ t
  tie : ∀ a b w, C a b w → ∃ v, f a b = some v ∧ w ≤ v
  walk : Snd C f
  ins : ∀ a b w, f a b = some w → a ∈ ns ∧ b ∈ ns
/-- ties told by a dict -/
structure TieOk (C : Tie) (ns : List OI) (xs : List (List OI × D)) (f : Far) : Prop where
  dt : DtOk ns xs f
  of : ∀ a b w, f a b = some w → C a b w
  to : ∀ a b w, C a b w → ∃ v, f a b = some v ∧ w ≤ v
theorem forC_fr {α : Type} {g : UG} {tb : US} {E : Ed} (mk : α → D) (xs : List α) (I : List α → En → Prop)
    (h : ∀ done a todo ρ, xs = done ++ a :: todo → I done ρ → ∀ K : En → Prop, (∀ ρ', I (done ++ [a]) ρ' → K ρ') → g (mk a) ρ fun ρ' => tb { E with nx := K, ct := K, bk := E.nx } ρ') (hn : ∀ ρ, I xs ρ → E.nx ρ) (ρ : En) (h0 : I [] ρ) : forC g tb E (xs.map mk) ρ := by
  have : ∀ (todo done : List α) (ρ : En), xs = done ++ todo → I done ρ → forC g tb E (todo.map mk) ρ := by
    intro todo
    induction todo with
    | nil =>
      intro done ρ e i
      rw [List.append_nil] at e
      subst e
      exact hn ρ i
    | cons a todo ih =>
      intro done ρ e i
      rw [List.map_cons]
      unfold forC
      exact h done a todo ρ e i _ fun ρ' i' => ih (done ++ [a]) ρ' (by rw [e]; simp) i'
  exact this xs [] ρ rfl h0
theorem thGet_2 {ys : List (List OI × D)} {a b : OI} : thGet (.dt ys) (.tuple [oiD a, oiD b]) = some (getA ys [a, b]) := by
  cases a <;> cases b <;> rfl
theorem thPut_2 {ys : List (List OI × D)} {a b : OI} {d : D} : thPut (.dt ys) (.tuple [oiD a, oiD b]) d = some (.dt (putT ys [a, b] d)) := by
  cases a <;> cases b <;> rfl

theorem DtOk.lf {ns : List OI} {ys : List (List OI × D)} {f : Far} (h : DtOk ns ys f) : (Th.dt ys).lf = true := by
  have : ∀ l : List (List OI × D), (∀ p ∈ l, ∃ w : Int, p.2 = .int w) → lfAll (l.map (·.2)) = true := by
    intro l
    induction l with
    | nil => intro _; rfl
    | cons p l ih =>
      intro hv
      obtain ⟨w, e⟩ := hv p (by simp)
      rw [List.map_cons, e]
      exact ih fun q hq => hv q (by simp [hq])
  exact this ys h.vals
theorem far_put {ns : List OI} {C : Tie} {f f' : Far} {ys : List (List OI × D)} {a b : OI} {w : Int} (o : DtOk ns ys f) (m : Mono f' f) (s : Snd C f) (ha : a ∈ ns) (hb : b ∈ ns) (hw : Wk C a b w) (hm : ∀ u, f a b = some u → u ≤ w) :
    DtOk ns (putT ys [a, b] (.int w)) (fset f a b w) ∧ Mono f' (fset f a b w) ∧ Snd C (fset f a b w) := ⟨o.put ha hb, m.trans (.fset hm), s.fset hw⟩
theorem anyGt {f : Far} {ns : List OI} (h : ∀ a ∈ ns, ∃ u, f a a = some u ∧ 0 ≤ u) : ((ns.map fun a => decide (0 < (f a a).getD 0)).any id = true ∧ ∃ a ∈ ns, ∃ u, f a a = some u ∧ 0 < u) ∨ ((ns.map fun a => decide (0 < (f a a).getD 0)).any id = false ∧ ∀ a ∈ ns, f a a = some 0) := by
  by_cases c : ∃ a ∈ ns, ∃ u, f a a = some u ∧ 0 < u
  · refine .inl ⟨?_, c⟩
    obtain ⟨a, ha, u, e, l⟩ := c
    exact List.any_eq_true.mpr ⟨_, List.mem_map.mpr ⟨a, ha, rfl⟩, by rw [e]; simpa using l⟩
  · have h2 : ∀ a ∈ ns, f a a = some 0 := fun a ha => by
      obtain ⟨u, e, l⟩ := h a ha
      have : ¬ 0 < u := fun l2 => c ⟨a, ha, u, e, l2⟩
      rw [e]
      congr 1
      omega
    refine .inr ⟨?_, h2⟩
    rw [List.any_eq_false]
    intro b hb
    obtain ⟨a, ha, rfl⟩ := List.mem_map.mp hb
    rw [h2 a ha]
    simp
/-- the middle's loops -/
def MidI (C : Tie) (ns : List OI) (f : Far) (k : OI) (P : OI → OI → Prop) (ys : List (List OI × D)) (g : Far) : Prop :=
  DtOk ns ys g ∧ Mono f g ∧ Snd C g ∧ (f k k = some 0 → ∀ a b, (P a b → g a b = mx f k a b) ∧ (¬ P a b → g a b = f a b))
theorem MidI.ext {C : Tie} {ns : List OI} {f : Far} {k : OI} {P P' : OI → OI → Prop} {ys : List (List OI × D)} {g : Far} (h : MidI C ns f k P ys g) (e : ∀ a b, (P a b ↔ P' a b) ∨ f k b = none) : MidI C ns f k P' ys g := by
  refine ⟨h.1, h.2.1, h.2.2.1, fun hk a b => ?_⟩
  have h4 := h.2.2.2 hk a b
  rcases e a b with e | e
  · exact ⟨fun p => h4.1 (e.mpr p), fun p => h4.2 fun q => p (e.mp q)⟩
  · have hm : mx f k a b = f a b := by
      unfold mx
      rw [e]
      cases f a k <;> rfl
    rw [hm] at h4 ⊢
    have : g a b = f a b := by
      by_cases c : P a b
      · exact h4.1 c
      · exact h4.2 c
    exact ⟨fun _ => this, fun _ => this⟩
theorem mid_step {C : Tie} {ns : List OI} {f g : Far} {k one other : OI} {P : OI → OI → Prop} {ys : List (List OI × D)} (h : MidI C ns f k P ys g) (hk : k ∈ ns) (h1 : one ∈ ns) (h2 : other ∈ ns) (hP : ¬ P one other) :
    (∀ u v, g one k = some u → g k other = some v → (u + v > (g one other).getD (u + v - 1) → MidI C ns f k (fun a b => P a b ∨ (a = one ∧ b = other)) (putT ys [one, other] (.int (u + v))) (fset g one other (u + v))) ∧
      (¬ u + v > (g one other).getD (u + v - 1) → MidI C ns f k (fun a b => P a b ∨ (a = one ∧ b = other)) ys g)) ∧ ((g one k = none ∨ g k other = none) → MidI C ns f k (fun a b => P a b ∨ (a = one ∧ b = other)) ys g) := by
  obtain ⟨o, m, s, c⟩ := h
  have hl : f k k = some 0 → g one k = f one k := fun hz => by
    by_cases p : P one k
    · rw [(c hz one k).1 p, mx_l hz]
    · exact (c hz one k).2 p
  have hr : f k k = some 0 → g k other = f k other := fun hz => by
    by_cases p : P k other
    · rw [(c hz k other).1 p, mx_r hz]
    · exact (c hz k other).2 p
  have ho : f k k = some 0 → g one other = f one other := fun hz => (c hz one other).2 hP
  refine ⟨fun u v e1 e2 => ⟨fun gt => ?_, fun le => ?_⟩, fun hn => ?_⟩
  · have hw : Wk C one other (u + v) := (s _ _ _ e1).app (s _ _ _ e2)
    obtain ⟨a1, a2, a3⟩ := far_put (w := u + v) o m s h1 h2 hw fun w e => by rw [e] at gt; simp at gt; omega
    refine ⟨a1, a2, a3, fun hz a b => ?_⟩
    by_cases cc : a = one ∧ b = other
    · obtain ⟨rfl, rfl⟩ := cc
      refine ⟨fun _ => ?_, fun p => absurd (.inr ⟨rfl, rfl⟩) p⟩
      rw [fset_at]
      unfold mx
      rw [← hl hz, ← hr hz, ← ho hz, e1, e2]
      dsimp only
      cases e3 : g a b with
      | none => rfl
      | some w =>
        rw [e3] at gt
        have gt : u + v > w := gt
        dsimp only
        congr 1
        omega
    · rw [fset_ne cc]
      exact ⟨fun p => (c hz a b).1 (p.resolve_right cc), fun p => (c hz a b).2 fun q => p (.inl q)⟩
  · refine ⟨o, m, s, fun hz a b => ?_⟩
    by_cases cc : a = one ∧ b = other
    · obtain ⟨rfl, rfl⟩ := cc
      refine ⟨fun _ => ?_, fun p => absurd (.inr ⟨rfl, rfl⟩) p⟩
      unfold mx
      rw [← hl hz, ← hr hz, ← ho hz, e1, e2]
      dsimp only
      cases e3 : g a b with
      | none =>
        rw [e3] at le
        exact absurd (show u + v > u + v - 1 by omega) le
      | some w =>
        rw [e3] at le
        have le : ¬ u + v > w := le
        dsimp only
        congr 1
        omega
    · exact ⟨fun p => (c hz a b).1 (p.resolve_right cc), fun p => (c hz a b).2 fun q => p (.inl q)⟩
  · refine ⟨o, m, s, fun hz a b => ?_⟩
    by_cases cc : a = one ∧ b = other
    · obtain ⟨rfl, rfl⟩ := cc
      refine ⟨fun _ => ?_, fun p => absurd (.inr ⟨rfl, rfl⟩) p⟩
      unfold mx
      rw [← hl hz, ← hr hz, ← ho hz]
      rcases hn with e | e
      · rw [e]
      · rw [e]
        cases g a k <;> rfl
    · exact ⟨fun p => (c hz a b).1 (p.resolve_right cc), fun p => (c hz a b).2 fun q => p (.inl q)⟩
theorem m_far3 {C : Tie} {ns : List OI} {xs : List (List OI × D)} {f : Far} {k one : OI} {done : List OI} {E : Ed} (hns : ns.Nodup) (hl : ns.length ≤ 900) (hk : k ∈ ns) (h1 : one ∈ ns) (h2 : one ∉ done) {ys : List (List OI × D)} {g : Far} {s3 s6 s7 : Sl} (h : MidI C ns f k (fun a _ => a ∈ done) ys g)
    (hK : ∀ ys g s6 s7, MidI C ns f k (fun a _ => a ∈ done ++ [one]) ys g → ownN (some s6) → ownN (some s7) → E.nx [.tv (.dt xs), .dat (.list (ns.map oiD)), .th (.dt ys), s3, .dat (oiD k), .dat (oiD one), s6, s7]) (o6 : ownN (some s6)) (o7 : ownN (some s7)) :
    forC (gNam 6) b_farthest_1 E (ns.map oiD) [.tv (.dt xs), .dat (.list (ns.map oiD)), .th (.dt ys), s3, .dat (oiD k), .dat (oiD one), s6, s7] := by
  have hsz : ∀ {ys : List (List OI × D)} {f : Far}, DtOk ns ys f → ys.length < 1000000 := fun h => Nat.lt_of_le_of_lt h.len (Nat.lt_of_le_of_lt (Nat.mul_le_mul hl hl) (by decide))
  refine forC_fr oiD ns (fun dn ρ => ∃ ys g s6 s7, ρ = [.tv (.dt xs), .dat (.list (ns.map oiD)), .th (.dt ys), s3, .dat (oiD k), .dat (oiD one), s6, s7] ∧ MidI C ns f k (fun a b => a ∈ done ∨ (a = one ∧ b ∈ dn)) ys g ∧ ownN (some s6) ∧ ownN (some s7)) ?_ ?_ _ ⟨ys, g, s6, s7, rfl, h.ext fun a b => .inl (by simp), o6, o7⟩
  · rintro dn b todo ρ e ⟨ys, g, s6, s7, rfl, hI, o6, o7⟩ K hK
    have hb : b ∈ ns := by rw [e]; simp
    have hbn : b ∉ dn := fun hm => by
      rw [e] at hns
      exact (List.nodup_append.mp hns).2.2 b hm b (by simp) rfl
    have hP : ¬ (one ∈ done ∨ (one = one ∧ b ∈ dn)) := fun z => z.elim h2 fun q => hbn q.2
    obtain ⟨q1, q2⟩ := mid_step hI hk h1 hb hP
    have hx : ∀ {ys g}, MidI C ns f k (fun a c => (a ∈ done ∨ (a = one ∧ c ∈ dn)) ∨ (a = one ∧ c = b)) ys g → MidI C ns f k (fun a c => a ∈ done ∨ (a = one ∧ c ∈ dn ++ [b])) ys g := fun h => h.ext fun a c => .inl (by
      rw [List.mem_append, List.mem_singleton]
      constructor
      · rintro ((h | h) | h)
        · exact .inl h
        · exact .inr ⟨h.1, .inl h.2⟩
        · exact .inr ⟨h.1, .inr h.2⟩
      · rintro (h | ⟨h, h' | h'⟩)
        · exact .inl (.inl h)
        · exact .inl (.inr ⟨h, h'⟩)
        · exact .inr ⟨h, h'⟩)
    have o := hI.1
    unfold b_farthest_1
    walk_at "pu"
    simp only [thGet_2, thPut_2, o.get, Option.some.injEq, exists_eq_left']
    have keep : MidI C ns f k (fun a c => (a ∈ done ∨ (a = one ∧ c ∈ dn)) ∨ (a = one ∧ c = b)) ys g → ∀ s7, ownN (some s7) → K [.tv (.dt xs), .dat (.list (ns.map oiD)), .th (.dt ys), s3, .dat (oiD k), .dat (oiD one), .dat (oiD b), s7] := fun h s7 o7 => hK _ ⟨ys, g, _, s7, rfl, hx h, rfl, o7⟩
    cases e1 : g one k with
    | none =>
      walk_at "pu"
      exact ⟨(fun z => by cases z), fun _ => keep (q2 (.inl e1)) _ o7⟩
    | some u =>
      cases e2 : g k b with
      | none => exact ⟨fun _ => ⟨(fun z => by cases z), fun _ => keep (q2 (.inr e2)) _ o7⟩, (fun z => by cases z)⟩
      | some v =>
        obtain ⟨p1, p2⟩ := q1 u v e1 e2
        refine ⟨fun _ => ⟨fun _ => ⟨_, rfl, _, rfl, ?_⟩, (fun z => by cases z)⟩, (fun z => by cases z)⟩
        walk_at "pu"
        have fin : fGtU (.int (u + v)) (.int ((g one b).getD (u + v - 1))) fun z => (z = true → (Th.dt ys).len < 1000000 ∧ K [.tv (.dt xs), .dat (.list (ns.map oiD)), .th (.dt (putT ys [one, b] (.int (u + v)))), s3, .dat (oiD k), .dat (oiD one), .dat (oiD b), .dat (.int (u + v))]) ∧
            (z = false → K [.tv (.dt xs), .dat (.list (ns.map oiD)), .th (.dt ys), s3, .dat (oiD k), .dat (oiD one), .dat (oiD b), .dat (.int (u + v))]) := by
          walk_at "pu"
          refine ⟨fun h => ⟨hsz o, ?_⟩, fun h => keep (p2 (by omega)) _ rfl⟩
          exact hK _ ⟨_, _, _, _, rfl, hx (p1 (by omega)), rfl, rfl⟩
        cases e3 : g one b with
        | none => rw [e3] at fin; exact fin
        | some w => rw [e3] at fin; exact fin
  · rintro ρ ⟨ys, g, s6, s7, rfl, hI, o6, o7⟩
    refine hK _ _ _ _ (hI.ext fun a b => ?_) o6 o7
    cases hf : f k b with
    | none => exact .inr rfl
    | some w =>
      obtain ⟨v, hv, _⟩ := hI.2.1 _ _ _ hf
      have hb := (hI.1.inn hv).2
      refine .inl ?_
      rw [List.mem_append, List.mem_singleton]
      exact ⟨fun z => z.imp_right fun q => q.1, fun z => z.imp_right fun q => ⟨q, hb⟩⟩
theorem m_farthest {C : Tie} {ns : List OI} {xs : List (List OI × D)} {f0 : Far} {Z : Rs → Prop} (hns : ns.Nodup) (hl : ns.length ≤ 900) (hx : TieOk C ns xs f0) (hh : (xs.map fun p => otHash p.1).Nodup)
    (hN : ∀ a ∈ ns, ∀ v, 0 < v → Wk C a a v → Z (.dat .none)) (hF : ∀ ys f, DtOk ns ys f → FarOk C ns f → Z (.th (.dt ys))) : S_farthest [.th (.dt xs), .dat (.list (ns.map oiD))] Z := by
  have hsz : ∀ {ys : List (List OI × D)} {f : Far}, DtOk ns ys f → ys.length < 1000000 := fun h => Nat.lt_of_le_of_lt h.len (Nat.lt_of_le_of_lt (Nat.mul_le_mul hl hl) (by decide))
  unfold S_farthest t_farthest N_farthest
  walk_at "pu"
  refine ⟨hh, ?_⟩
  refine forC_fr oiD ns (fun done ρ => ∃ s3 ys f, ρ = [.tv (.dt xs), .dat (.list (ns.map oiD)), .th (.dt ys), s3, .un, .un, .un, .un] ∧ ownN (some s3) ∧ DtOk ns ys f ∧ Mono f0 f ∧ Snd C f ∧ ∀ a ∈ done, ∃ u, f a a = some u ∧ 0 ≤ u) ?_ ?_ _ ⟨.un, xs, f0, rfl, rfl, hx.dt, .refl, fun a b w h => .one (hx.of a b w h), fun a h => by cases h⟩
  · rintro done a todo ρ e ⟨s3, ys, f, rfl, o3, o, m, s, dg⟩ K hK
    have ha : a ∈ ns := by rw [e]; simp
    unfold b_farthest_4
    walk_at "pu"
    simp only [thGet_2, thPut_2, o.get, Option.some.injEq, exists_eq_left']
    have fin : ∀ w : Int, Wk C a a w → (∀ u, f a a = some u → u ≤ w) → 0 ≤ w → (Th.dt ys).len < 1000000 ∧ K [.tv (.dt xs), .dat (.list (ns.map oiD)), .th (.dt (putT ys [a, a] (.int w))), .dat (oiD a), .un, .un, .un, .un] := fun w hw hm h0 => by
      refine ⟨hsz o, ?_⟩
      obtain ⟨a1, a2, a3⟩ := far_put (w := w) o m s ha ha hw hm
      refine hK _ ⟨_, _, _, rfl, rfl, a1, a2, a3, fun b hb => ?_⟩
      by_cases c : b = a
      · subst c
        exact ⟨w, fset_at, h0⟩
      · rcases List.mem_append.mp hb with hb | hb
        · obtain ⟨u, e1, l1⟩ := dg b hb
          exact ⟨u, by rw [fset_ne fun z => c z.1]; exact e1, l1⟩
        · exact absurd (List.mem_singleton.mp hb) c
    cases e1 : f a a with
    | none =>
      exact fin 0 .nil (fun u e2 => by rw [e1] at e2; cases e2) (by omega)
    | some u =>
      have e2 : (if u > 0 then u else 0) = max 0 u := by
        split <;> omega
      refine (?_ : (Th.dt ys).len < 1000000 ∧ K [.tv (.dt xs), .dat (.list (ns.map oiD)), .th (.dt (putT ys [a, a] (.int (if u > 0 then u else 0)))), .dat (oiD a), .un, .un, .un, .un])
      rw [e2]
      refine fin (max 0 u) ?_ (fun v e2 => by rw [e1] at e2; cases e2; omega) (by omega)
      rcases Int.le_total 0 u with c | c
      · rw [Int.max_eq_right c]
        exact s _ _ _ e1
      · rw [Int.max_eq_left c]
        exact .nil
  · rintro ρ ⟨s3, ys, f, rfl, o3, o, m, s, dg⟩
    walk_at "pu"
    refine forC_fr oiD ns (fun done ρ => ∃ s3 s4 s5 s6 s7 ys f, ρ = [.tv (.dt xs), .dat (.list (ns.map oiD)), .th (.dt ys), s3, s4, s5, s6, s7] ∧ ownN (some s3) ∧ ownN (some s5) ∧ ownN (some s6) ∧ ownN (some s7) ∧ DtOk ns ys f ∧ Mono f0 f ∧ Snd C f ∧ (∀ a ∈ ns, ∃ u, f a a = some u ∧ 0 ≤ u) ∧ ((∀ a ∈ ns, f a a = some 0) → Tri f done) ∧ (done ≠ [] → ∀ a ∈ ns, f a a = some 0))
      ?_ ?_ _ ⟨s3, _, _, _, _, ys, f, rfl, o3, rfl, rfl, rfl, o, m, s, dg, (fun _ m hm => by cases hm), fun z => absurd rfl z⟩
    · rintro done k todo ρ e ⟨s3, s4, s5, s6, s7, ys, f, rfl, o3, o5, o6, o7, o, m, s, dg, tr, _⟩ K hK
      have hk : k ∈ ns := by rw [e]; simp
      unfold b_farthest_3
      walk_at "pu"
      refine forC_fr oiD ns (fun dn ρ => ∃ s5 s6 s7 ys g, ρ = [.tv (.dt xs), .dat (.list (ns.map oiD)), .th (.dt ys), s3, .dat (oiD k), s5, s6, s7] ∧ ownN (some s5) ∧ ownN (some s6) ∧ ownN (some s7) ∧ MidI C ns f k (fun a _ => a ∈ dn) ys g) ?_ ?_ _ ⟨s5, s6, s7, ys, f, rfl, o5, o6, o7, o, .refl, s, fun _ a b => ⟨(fun z => by cases z), fun _ => rfl⟩⟩
      · rintro dn one todo2 ρ e2 ⟨s5, s6, s7, ys, g, rfl, o5, o6, o7, hI⟩ K2 hK2
        unfold b_farthest_2
        walk_at "pu"
        refine m_far3 hns hl hk (by rw [e2]; simp) (fun hm => ?_) hI (fun ys g s6 s7 hI o6 o7 => hK2 _ ⟨_, s6, s7, ys, g, rfl, rfl, o6, o7, hI⟩) o6 o7
        rw [e2] at hns
        exact (List.nodup_append.mp hns).2.2 one hm one (by simp) rfl
      · rintro ρ ⟨s5, s6, s7, ys, g, rfl, o5, o6, o7, o, mg, sg, cg⟩
        walk_at "pu"
        have dg2 : ∀ a ∈ ns, ∃ u, g a a = some u ∧ 0 ≤ u := fun a ha => by
          obtain ⟨u, e1, l1⟩ := dg a ha
          obtain ⟨v, e2, l2⟩ := mg _ _ _ e1
          exact ⟨v, e2, by omega⟩
        refine ⟨o3, ?_⟩
        refine lcC_yes oiD (fun a => .bool (decide (0 < (g a a).getD 0))) ns [] (fun a ha P1 g1 => ?_) ?_
        · walk_at "pu"
          simp only [thGet_2, o.get, Option.some.injEq, exists_eq_left']
          obtain ⟨u, e1, l1⟩ := dg2 a ha
          rw [e1] at g1 ⊢
          refine ⟨_, rfl, ?_⟩
          walk_at "pu"
          exact g1
        · rw [List.nil_append, bools_map (fun a => decide (0 < (g a a).getD 0))]
          walk_at "pu"
          rcases anyGt dg2 with ⟨e1, a, ha, u, e2, l2⟩ | ⟨e1, h0⟩
          · refine ⟨fun _ => hN a ha u l2 (sg _ _ _ e2), fun z => ?_⟩
            rw [e1] at z
            cases z
          · refine ⟨fun z => ?_, fun _ => ?_⟩
            · rw [e1] at z
              cases z
            · have hf0 : ∀ a ∈ ns, f a a = some 0 := fun a ha => by
                obtain ⟨u, e1, l1⟩ := dg a ha
                obtain ⟨v, e2, l2⟩ := mg _ _ _ e1
                rw [h0 a ha] at e2
                cases e2
                rw [e1]
                congr 1
                omega
              have hg : ∀ a b, g a b = mx f k a b := fun a b => by
                have := cg (hf0 k hk) a b
                by_cases ha : a ∈ ns
                · exact this.1 ha
                · have hn : ∀ c w, f a c = some w → False := fun c w hw => by
                    obtain ⟨v, hv, _⟩ := mg _ _ _ hw
                    exact ha (o.inn hv).1
                  rw [this.2 ha]
                  unfold mx
                  cases h1 : f a k with
                  | some w => exact (hn k w h1).elim
                  | none => rfl
              refine hK _ ⟨_, _, s5, s6, s7, ys, g, rfl, o3, o5, o6, o7, o, m.trans mg, sg, dg2, fun _ => tri_mx (hf0 k hk) (fun m hm => hf0 m (by rw [e]; simp [hm])) (tr hf0) hg, fun _ => h0⟩
    · rintro ρ ⟨s3, s4, s5, s6, s7, ys, f, rfl, o3, o5, o6, o7, o, m, s, dg, tr, hd⟩
      walk_at "pu"
      have h0 : ∀ a ∈ ns, f a a = some 0 := fun a ha => hd (fun e => by rw [e] at ha; cases ha) a ha
      refine ⟨o.lf, hF ys f o ⟨h0, fun a b c u v h1 h2 => tr h0 b (o.inn h1).2 a c u v h1 h2, fun a b w h => ?_, s, fun a b w h => o.inn h⟩⟩
      obtain ⟨v, e1, l1⟩ := hx.to a b w h
      obtain ⟨v2, e2, l2⟩ := m _ _ _ e1
      exact ⟨v2, e2, by omega⟩

/-! keys (a, b) of None and 0..24 have unlike hashes -/
def nodeOf (i : Nat) : OI := if i = 0 then none else some ((i - 1 : Nat) : Int)
def codeH (c : Nat) : Int := otHash [nodeOf (c / 26), nodeOf (c % 26)]
def codesH : List Nat := [621, 133, 276, 202, 344, 401, 555, 155, 480, 434, 537, 605, 15, 633, 570, 214, 572, 368, 425, 93, 247, 350, 304, 503, 383, 440, 582, 27, 21, 639, 84, 442, 238, 49, 117, 174, 316, 470, 573, 253, 281, 310, 452, 509, 312, 663, 542, 198, 340, 123, 151, 77, 322, 476, 533, 601, 355, 412, 566, 623, 210, 89, 243, 346, 225, 379, 436, 578, 607, 17, 635, 45, 113, 95, 249, 163, 306, 448, 1, 505, 659, 130, 23, 538, 641, 674, 119, 261, 187, 318, 472, 529, 283, 351, 408, 562, 544, 131, 57, 85, 342, 153, 221, 375, 432, 574, 603, 631, 311, 414, 568, 510, 34, 646, 91, 245, 159, 302, 444, 501, 381, 181, 580, 19, 534, 459, 516, 670, 115, 183, 314, 598, 251, 279, 205, 347, 450, 404, 329, 483, 540, 608, 53, 263, 189, 75, 217, 371, 599, 353, 307, 410, 564, 30, 59, 24, 642, 87, 241, 120, 223, 26, 377, 291, 177, 576, 102, 256, 455, 512, 666, 111, 36, 648, 161, 446, 126, 268, 154, 325, 479, 536, 604, 415, 518, 672, 185, 138, 64, 207, 349, 417, 406, 228, 485, 553, 439, 610, 55, 638, 219, 373, 287, 98, 252, 423, 309, 451, 4, 508, 388, 587, 32, 644, 157, 122, 264, 293, 179, 321, 475, 258, 457, 260, 525, 411, 514, 668, 336, 134, 60, 345, 128, 270, 196, 224, 327, 481, 395, 549, 606, 360, 571, 215, 37, 140, 66, 94, 248, 419, 230, 384, 441, 583, 28, 612, 22, 640, 519, 673, 118, 289, 43, 100, 254, 168, 453, 6, 182, 521, 664, 332, 589, 657, 543, 56, 124, 266, 192, 323, 477, 52, 391, 145, 602, 356, 527, 413, 567, 492, 33, 136, 617, 62, 226, 380, 397, 551, 437, 579, 362, 430, 11, 629, 515, 594, 39, 96, 250, 164, 421, 449, 2, 129, 232, 386, 300, 328, 482, 585, 499, 653, 464, 675, 262, 188, 546, 319, 141, 170, 284, 352, 523, 277, 203, 334, 488, 545, 132, 613, 58, 416, 194, 222, 290, 393, 547, 147, 73, 101, 358, 426, 569, 7, 286, 625, 590, 35, 619, 647, 92, 160, 239, 125, 382, 296, 324, 50, 581, 156, 495, 460, 13, 517, 671, 596, 41, 109, 137, 166, 273, 199, 330, 484, 398, 655, 541, 609, 466, 190, 143, 69, 354, 422, 3, 233, 387, 490, 558, 586, 31, 615, 81, 235, 378, 292, 650, 46, 103, 257, 428, 456, 9, 627, 592, 506, 105, 649, 162, 520, 127, 269, 195, 298, 326, 394, 497, 651, 462, 530, 390, 186, 139, 65, 418, 275, 201, 343, 229, 486, 400, 554, 611, 288, 42, 71, 213, 99, 367, 424, 5, 389, 303, 560, 588, 502, 645, 158, 467, 20, 83, 237, 265, 191, 294, 48, 116, 259, 173, 315, 458, 526, 337, 491, 662, 107, 135, 61, 271, 197, 339, 396, 550, 150, 76, 361, 78, 532, 600, 565, 38, 622, 67, 209, 624, 420, 231, 385, 299, 402, 556, 584, 498, 652, 435, 463, 16, 634, 79, 494, 44, 112, 369, 255, 169, 454, 522, 305, 447, 333, 487, 504, 658, 267, 193, 392, 146, 72, 175, 317, 471, 357, 528, 282, 493, 407, 561, 364, 618, 63, 341, 227, 295, 552, 152, 220, 374, 363, 431, 234, 12, 630, 595, 40, 108, 211, 365, 165, 90, 244, 272, 301, 104, 443, 500, 654, 180, 465, 18, 636, 669, 114, 142, 68, 171, 313, 524, 278, 204, 335, 489, 403, 557, 660, 614, 539, 80, 548, 148, 74, 216, 370, 473, 359, 427, 8, 626, 409, 563, 591, 620, 29, 86, 240, 297, 51, 496, 376, 176, 433, 575, 461, 14, 632, 597, 511, 665, 110, 468, 167, 246, 274, 200, 445, 331, 399, 656, 478, 535, 338, 144, 184, 70, 212, 366, 469, 280, 206, 348, 405, 208, 559, 616, 0, 438, 54, 637, 82, 236, 47, 218, 372, 172, 429, 10, 97, 628, 308, 593, 507, 661, 106, 25, 643, 88, 242, 121, 149, 178, 320, 474, 577, 531, 285, 513, 667]
def chkH : Int → List Nat → Bool
  | _, [] => true
  | h, c :: cs => let g := codeH c; decide (h < g) && chkH g cs
theorem chkH_ok : chkH (-9223372036854775809) codesH = true := by decide +kernel
theorem codesH_all : (codesH.all fun c => decide (c < 676)) = true := by decide +kernel
theorem codesH_len : codesH.length = 676 := by decide +kernel
theorem chkH_lt : ∀ {h : Int} {cs : List Nat}, chkH h cs = true → (∀ c ∈ cs, h < codeH c) ∧ cs.Nodup ∧ ∀ c ∈ cs, ∀ d ∈ cs, codeH c = codeH d → c = d
  | _, [], _ => ⟨fun c h => (by cases h), .nil, fun c h => (by cases h)⟩
  | h, c :: cs, e => by
    unfold chkH at e
    rw [Bool.and_eq_true, decide_eq_true_eq] at e
    obtain ⟨i1, i2, i3⟩ := chkH_lt e.2
    refine ⟨fun d hd => ?_, List.nodup_cons.mpr ⟨fun hm => Int.lt_irrefl _ (i1 c hm), i2⟩, fun d hd x hx q => ?_⟩
    · rcases List.mem_cons.mp hd with hd | hd
      · rw [hd]
        exact e.1
      · exact Int.lt_trans e.1 (i1 d hd)
    · rcases List.mem_cons.mp hd with hd | hd
      · rcases List.mem_cons.mp hx with hx | hx
        · rw [hd, hx]
        · have := i1 x hx
          rw [hd] at q
          omega
      · rcases List.mem_cons.mp hx with hx | hx
        · have := i1 d hd
          rw [hx] at q
          omega
        · exact i3 d hd x hx q
theorem codesH_mem {c : Nat} (hc : c < 676) : c ∈ codesH := Classical.byContradiction fun n => by
  have := nd_len (c :: codesH) (List.range 676) (List.nodup_cons.mpr ⟨n, (chkH_lt chkH_ok).2.1⟩) fun x hx => by
    rcases List.mem_cons.mp hx with rfl | hx
    · exact List.mem_range.mpr hc
    · exact List.mem_range.mpr (of_decide_eq_true (List.all_eq_true.mp codesH_all x hx))
  rw [List.length_cons, codesH_len, List.length_range] at this
  omega
theorem codeH_inj {c d : Nat} (hc : c < 676) (hd : d < 676) (e : codeH c = codeH d) : c = d := (chkH_lt chkH_ok).2.2 c (codesH_mem hc) d (codesH_mem hd) e
/-- None, or a small number -/
def NodeOk (a : OI) : Prop := ∀ i, a = some i → 0 ≤ i ∧ i < 25
theorem node_code {a : OI} (h : NodeOk a) : ∃ i, i < 26 ∧ nodeOf i = a := by
  cases a with
  | none => exact ⟨0, by decide, rfl⟩
  | some i =>
    obtain ⟨h1, h2⟩ := h i rfl
    refine ⟨i.toNat + 1, by omega, ?_⟩
    unfold nodeOf
    rw [if_neg (by omega)]
    congr 1
    omega
theorem oth_inj {a b c d : OI} (ha : NodeOk a) (hb : NodeOk b) (hc : NodeOk c) (hd : NodeOk d) (e : otHash [a, b] = otHash [c, d]) : [a, b] = [c, d] := by
  obtain ⟨i, hi, rfl⟩ := node_code ha
  obtain ⟨j, hj, rfl⟩ := node_code hb
  obtain ⟨k, hk, rfl⟩ := node_code hc
  obtain ⟨l, hl, rfl⟩ := node_code hd
  have h1 : ∀ x y : Nat, y < 26 → (x * 26 + y) / 26 = x ∧ (x * 26 + y) % 26 = y := fun x y hy => by omega
  have key := codeH_inj (c := i * 26 + j) (d := k * 26 + l) (by omega) (by omega) (by
    unfold codeH
    rw [(h1 i j hj).1, (h1 i j hj).2, (h1 k l hl).1, (h1 k l hl).2]
    exact e)
  have : i = k ∧ j = l := by omega
  rw [this.1, this.2]
theorem oth_nd {ns : List OI} {xs : List (List OI × D)} {f : Far} (hn : ∀ a ∈ ns, NodeOk a) (h : DtOk ns xs f) : (xs.map fun p => otHash p.1).Nodup := by
  have key : ∀ l : List (List OI), l.Nodup → (∀ k ∈ l, ∃ a b, k = [a, b] ∧ a ∈ ns ∧ b ∈ ns) → (l.map otHash).Nodup := by
    intro l
    induction l with
    | nil => intro _ _; simp
    | cons k l ih =>
      intro nd hk
      rw [List.map_cons, List.nodup_cons]
      obtain ⟨n1, n2⟩ := List.nodup_cons.mp nd
      refine ⟨fun hm => ?_, ih n2 fun q hq => hk q (by simp [hq])⟩
      obtain ⟨q, hq, e⟩ := List.mem_map.mp hm
      obtain ⟨a, b, rfl, ha, hb⟩ := hk k (by simp)
      obtain ⟨c, d, rfl, hc, hd⟩ := hk q (by simp [hq])
      have := oth_inj (hn _ hc) (hn _ hd) (hn _ ha) (hn _ hb) e
      rw [this] at hq
      exact n1 hq
  have := key (xs.map (·.1)) h.nd fun k hk => by
    obtain ⟨p, hp, rfl⟩ := List.mem_map.mp hk
    exact h.keys p hp
  rwa [List.map_map] at this

/-! rows of a log; where letters are sent and taken -/
inductive Ev where
  | say
  | send (x : Str)
  | take (x : Str)
def Ev.k : Ev → Str
  | .say => "say"
  | .send _ => "send"
  | .take _ => "take"
def Ev.l : Ev → D
  | .say => .none
  | .send x => .str x
  | .take x => .str x
structure Ro where
  w : Nat
  sh : Int
  ev : Ev
def roD (r : Ro) : D := .tuple [.int (r.w : Nat), .int r.sh, .str r.ev.k, r.ev.l]
def isAt (k x : Str) (r : Ro) : Bool := decide (r.ev.k = k) && match r.ev.l with
  | .str y => decide (y = x)
  | _ => false
def atsF (k x : Str) : Nat → List Ro → List Nat
  | _, [] => []
  | i, r :: rs => if isAt k x r = true then i :: atsF k x (i + 1) rs else atsF k x (i + 1) rs
abbrev ats (rs : List Ro) (k x : Str) : List Nat := atsF k x 0 rs
theorem atsF_app {k x : Str} : ∀ (rs : List Ro) (i : Nat) (r : Ro), atsF k x i (rs ++ [r]) = atsF k x i rs ++ if isAt k x r = true then [i + rs.length] else []
  | [], i, r => by simp [atsF]
  | q :: rs, i, r => by
    rw [List.cons_append]
    unfold atsF
    rw [atsF_app rs (i + 1) r, List.length_cons, show i + 1 + rs.length = i + (rs.length + 1) by omega]
    split <;> simp
theorem atsF_mem {k x : Str} : ∀ {rs : List Ro} {i j : Nat}, j ∈ atsF k x i rs ↔ ∃ n r, rs[n]? = some r ∧ j = i + n ∧ isAt k x r = true
  | [], i, j => by simp [atsF]
  | q :: rs, i, j => by
    unfold atsF
    have ih := fun l => atsF_mem (k := k) (x := x) (rs := rs) (i := i + 1) (j := l)
    constructor
    · intro h
      by_cases c : isAt k x q = true
      · rw [if_pos c] at h
        rcases List.mem_cons.mp h with rfl | h
        · exact ⟨0, q, rfl, rfl, c⟩
        · obtain ⟨n, r, e1, e2, e3⟩ := (ih j).mp h
          exact ⟨n + 1, r, e1, by omega, e3⟩
      · rw [if_neg c] at h
        obtain ⟨n, r, e1, e2, e3⟩ := (ih j).mp h
        exact ⟨n + 1, r, e1, by omega, e3⟩
    · rintro ⟨n, r, e1, e2, e3⟩
      cases n with
      | zero =>
        cases e1
        rw [if_pos e3, e2]
        simp
      | succ n =>
        have := (ih j).mpr ⟨n, r, e1, by omega, e3⟩
        split
        · exact List.mem_cons_of_mem _ this
        · exact this
theorem ats_mem {rs : List Ro} {k x : Str} {j : Nat} : j ∈ ats rs k x ↔ ∃ r, rs[j]? = some r ∧ isAt k x r = true := by
  rw [atsF_mem]
  constructor
  · rintro ⟨n, r, e1, e2, e3⟩
    rw [Nat.zero_add] at e2
    subst e2
    exact ⟨r, e1, e3⟩
  · rintro ⟨r, e1, e3⟩
    exact ⟨j, r, e1, by omega, e3⟩
theorem atsF_len {k x : Str} : ∀ (rs : List Ro) (i : Nat), (atsF k x i rs).length ≤ rs.length
  | [], _ => Nat.le_refl _
  | r :: rs, i => by
    unfold atsF
    have := atsF_len (k := k) (x := x) rs (i + 1)
    split <;> simp only [List.length_cons] <;> omega
def natD (i : Nat) : D := .int (i : Nat)
structure EndsOk (rs : List Ro) (k : Str) (m : List (Key × List D)) : Prop where
  nd : (m.map (·.1)).Nodup
  ok : ∀ p ∈ m, ∃ x, p.1 = .inr x ∧ p.2 = (ats rs k x).map natD ∧ ats rs k x ≠ []
  all : ∀ x, ats rs k x ≠ [] → ∃ p ∈ m, p.1 = .inr x
  len : m.length ≤ rs.length
theorem EndsOk.skip {rs : List Ro} {k : Str} {m : List (Key × List D)} (h : EndsOk rs k m) {r : Ro} (hr : ∀ x, isAt k x r = false) : EndsOk (rs ++ [r]) k m := by
  have e : ∀ x, ats (rs ++ [r]) k x = ats rs k x := fun x => by
    unfold ats
    rw [atsF_app, hr x]
    simp
  refine ⟨h.nd, fun p hp => ?_, fun x hx => ?_, by rw [List.length_append]; have := h.len; omega⟩
  · obtain ⟨x, h1, h2, h3⟩ := h.ok p hp
    exact ⟨x, h1, by rw [e]; exact h2, by rw [e]; exact h3⟩
  · rw [e] at hx
    exact h.all x hx
theorem EndsOk.add {rs : List Ro} {k : Str} {m : List (Key × List D)} (h : EndsOk rs k m) {r : Ro} {y : Str} (hk : r.ev.k = k) (hl : r.ev.l = .str y) : EndsOk (rs ++ [r]) k (appM m (.inr y) (natD rs.length)) := by
  have hi : ∀ x, isAt k x r = decide (y = x) := fun x => by
    unfold isAt
    rw [hl, decide_eq_true hk, Bool.true_and]
  have e1 : ats (rs ++ [r]) k y = ats rs k y ++ [rs.length] := by
    unfold ats
    rw [atsF_app, hi, if_pos (by simp), Nat.zero_add]
  have e2 : ∀ x, x ≠ y → ats (rs ++ [r]) k x = ats rs k x := fun x hx => by
    unfold ats
    rw [atsF_app, hi, if_neg (by simpa using Ne.symm hx), List.append_nil]
  unfold appM
  by_cases c : (m.any fun p => decide (p.1 = .inr y)) = true
  · rw [if_pos c]
    have ek : (m.map fun p => if p.1 = (.inr y : Key) then (p.1, p.2 ++ [natD rs.length]) else p).map (·.1) = m.map (·.1) := by
      rw [List.map_map]
      refine List.map_congr_left fun p _ => ?_
      show (if p.1 = (.inr y : Key) then (p.1, p.2 ++ [natD rs.length]) else p).1 = p.1
      split <;> rfl
    refine ⟨by rw [ek]; exact h.nd, fun p hp => ?_, fun x hx => ?_, by rw [List.length_map, List.length_append]; have := h.len; omega⟩
    · obtain ⟨q, hq, rfl⟩ := List.mem_map.mp hp
      obtain ⟨x, h1, h2, h3⟩ := h.ok q hq
      by_cases d : q.1 = .inr y
      · rw [if_pos d]
        rw [d] at h1
        cases h1
        refine ⟨y, d, ?_, by rw [e1]; simp⟩
        rw [e1, List.map_append, h2]
        rfl
      · rw [if_neg d]
        have hx : x ≠ y := fun z => d (by rw [h1, z])
        exact ⟨x, h1, by rw [e2 x hx]; exact h2, by rw [e2 x hx]; exact h3⟩
    · have : ∃ p ∈ m, p.1 = .inr x := by
        by_cases d : x = y
        · subst d
          obtain ⟨p, hp, e⟩ := List.any_eq_true.mp c
          exact ⟨p, hp, of_decide_eq_true e⟩
        · rw [e2 x d] at hx
          exact h.all x hx
      obtain ⟨p, hp, e⟩ := this
      refine ⟨_, List.mem_map.mpr ⟨p, hp, rfl⟩, ?_⟩
      split
      · exact e
      · exact e
  · rw [if_neg c]
    have hn : ∀ p ∈ m, p.1 ≠ .inr y := fun p hp e => c (List.any_eq_true.mpr ⟨p, hp, decide_eq_true e⟩)
    have hy : ats rs k y = [] := Classical.byContradiction fun z => by
      obtain ⟨p, hp, e⟩ := h.all y z
      exact hn p hp e
    refine ⟨?_, fun p hp => ?_, fun x hx => ?_, by rw [List.length_append, List.length_append]; have := h.len; simp; omega⟩
    · rw [List.map_append, List.map_cons, List.map_nil, List.nodup_append]
      refine ⟨h.nd, by simp, fun a ha b hb e => ?_⟩
      obtain ⟨p, hp, e'⟩ := List.mem_map.mp ha
      rw [List.mem_singleton.mp hb] at e
      exact hn p hp (e'.trans e)
    · rcases List.mem_append.mp hp with hp | hp
      · obtain ⟨x, h1, h2, h3⟩ := h.ok p hp
        have hx : x ≠ y := fun z => hn p hp (by rw [h1, z])
        exact ⟨x, h1, by rw [e2 x hx]; exact h2, by rw [e2 x hx]; exact h3⟩
      · rw [List.mem_singleton.mp hp]
        exact ⟨y, rfl, by rw [e1, hy]; rfl, by rw [e1]; simp⟩
    · by_cases d : x = y
      · exact ⟨_, List.mem_append_right _ (List.mem_singleton.mpr rfl), by rw [d]⟩
      · rw [e2 x d] at hx
        obtain ⟨p, hp, e⟩ := h.all x hx
        exact ⟨p, List.mem_append_left _ hp, e⟩
theorem forC_en {α : Type} {g : UG} {tb : US} {E : Ed} (mk : α → D) (xs : List α) (I : List α → En → Prop)
    (h : ∀ done a todo ρ, xs = done ++ a :: todo → I done ρ → ∀ K : En → Prop, (∀ ρ', I (done ++ [a]) ρ' → K ρ') → g (.tuple [.int (done.length : Int), mk a]) ρ fun ρ' => tb { E with nx := K, ct := K, bk := E.nx } ρ') (hn : ∀ ρ, I xs ρ → E.nx ρ) (ρ : En) (h0 : I [] ρ) : forC g tb E (enumF 0 (xs.map mk)) ρ := by
  have : ∀ (todo done : List α) (ρ : En), xs = done ++ todo → I done ρ → forC g tb E (enumF done.length (todo.map mk)) ρ := by
    intro todo
    induction todo with
    | nil =>
      intro done ρ e i
      rw [List.append_nil] at e
      subst e
      exact hn ρ i
    | cons a todo ih =>
      intro done ρ e i
      rw [List.map_cons]
      unfold enumF forC
      refine h done a todo ρ e i _ fun ρ' i' => ?_
      have := ih (done ++ [a]) ρ' (by rw [e]; simp) i'
      rwa [List.length_append, List.length_singleton] at this
  exact this xs [] ρ rfl h0
/-- the ends of letters: a dict of lists, or still the empty one -/
inductive IsEnds (m : List (Key × List D)) : Rs → Prop
  | dll : IsEnds m (.dll m)
  | dic (h : m = []) : IsEnds m (.dic [])
theorem IsEnds.slot {m : List (Key × List D)} {r : Rs} (h : IsEnds m r) : r.sl = .dic (toK m) := by
  cases h with
  | dll => rfl
  | dic h => rw [h]; rfl
theorem nats_lf : ∀ l : List Nat, lfAll (l.map natD) = true
  | [] => rfl
  | _ :: l => by rw [List.map_cons]; exact nats_lf l
theorem EndsOk.lf {rs : List Ro} {k : Str} {m : List (Key × List D)} (h : EndsOk rs k m) {r : Rs} (hr : IsEnds m r) : r.lf = true := by
  cases hr with
  | dll =>
    rw [lf_dll]
    refine List.all_eq_true.mpr fun p hp => ?_
    obtain ⟨x, _, e, _⟩ := h.ok p hp
    rw [e]
    exact nats_lf _
  | dic _ => rfl
theorem eqv_str {a b : Str} : PyData.eqv (.str a) (.str b) = decide (a = b) := by
  rw [Bool.eq_iff_iff, decide_eq_true_iff]
  unfold PyData.eqv
  simp
theorem sh_say : sh 32 (.str "say") = true := by decide +kernel
theorem sh_send : sh 32 (.str "send") = true := by decide +kernel
theorem sh_take : sh 32 (.str "take") = true := by decide +kernel
theorem ev_sh : ∀ e : Ev, sh 32 (.str e.k) = true
  | .say => sh_say
  | .send _ => sh_send
  | .take _ => sh_take
theorem m_ends_of {rs : List Ro} {k : Str} {C : Rs → Prop} (hsh : sh 32 (.str k) = true) (hk : k ≠ "say") (hl : rs.length ≤ 1000) (hC : ∀ m r, EndsOk rs k m → IsEnds m r → C r) : S_ends_of [.dat (.tuple (rs.map roD)), .dat (.str k)] C := by
  unfold S_ends_of t_ends_of N_ends_of
  walk_at "pu"
  rw [enumD_eq]
  refine forC_en roD rs (fun done ρ => ∃ s m s3 s4, ρ = [.dat (.tuple (rs.map roD)), .dat (.str k), s, s3, s4] ∧ isDls s3 = false ∧ isDls s4 = false ∧ EndsOk done k m ∧ ((s = .dic [] ∧ m = []) ∨ s = .dls m)) ?_ ?_ _ ⟨.dic [], [], .un, .un, rfl, rfl, rfl, ⟨.nil, (fun p hp => by cases hp), (fun x hx => absurd rfl hx), Nat.le_refl _⟩, .inl ⟨rfl, rfl⟩⟩
  · rintro done r todo ρ e ⟨s, m, s3, s4, rfl, o3, o4, hm, hs⟩ K hK
    have hdl : done.length < 1000 := by
      rw [e, List.length_append, List.length_cons] at hl
      omega
    unfold b_ends_of_1 roD
    walk_at "pu"
    refine ⟨ev_sh r.ev, hsh, ?_⟩
    have e1 : PyData.eqv (.str r.ev.k) (.str k) = decide (r.ev.k = k) := eqv_str
    rw [if_neg (by decide), e1]
    by_cases c : r.ev.k = k
    · rw [decide_eq_true c]
      refine ⟨fun _ => ?_, (fun z => by cases z)⟩
      have hy : ∃ y, r.ev.l = .str y := by
        cases h : r.ev with
        | say =>
          rw [h] at c
          exact absurd c.symm hk
        | send y => exact ⟨y, rfl⟩
        | take y => exact ⟨y, rfl⟩
      obtain ⟨y, hy⟩ := hy
      refine ⟨m, ?_, .inr y, by rw [hy]; rfl, by have := hm.len; omega, fun p hp => ?_, ?_, hK _ ⟨_, _, _, _, rfl, rfl, rfl, hm.add c hy, .inr rfl⟩⟩
      · rcases hs with ⟨rfl, rfl⟩ | rfl <;> rfl
      · obtain ⟨x, _, e2, _⟩ := hm.ok p hp
        have := atsF_len (k := k) (x := x) done 0
        rw [e2, List.length_map]
        show (atsF k x 0 done).length < _
        omega
      · rfl
    · rw [decide_eq_false c]
      refine ⟨(fun z => by cases z), fun _ => hK _ ⟨s, m, _, _, rfl, rfl, rfl, hm.skip fun x => ?_, hs⟩⟩
      unfold isAt
      rw [decide_eq_false c, Bool.false_and]
  · rintro ρ ⟨s, m, s3, s4, rfl, o3, o4, hm, hs⟩
    rcases hs with ⟨rfl, rfl⟩ | rfl
    · walk_at "pu"
      exact ⟨rfl, hC _ _ hm (.dic rfl)⟩
    · walk_at "pu"
      refine ⟨?_, fun p hp => ?_, hm.lf (.dll (m := m)), hC _ _ hm .dll⟩
      · show ([Sl.dat (PyData.tuple (List.map roD rs)), Sl.dat (PyData.str k), Sl.un, s3, s4].any isDls) = false
        simp only [List.any_cons, List.any_nil, o3, o4]
        rfl
      · obtain ⟨x, _, e2, _⟩ := hm.ok p hp
        have := atsF_len (k := k) (x := x) rs 0
        rw [e2, List.length_map]
        show (atsF k x 0 rs).length ≤ _
        omega

/-- each letter is sent once at most, taken once at most, and only if it was sent -/
structure LtOk (rs : List Ro) : Prop where
  s1 : ∀ x, (ats rs "send" x).length ≤ 1
  t1 : ∀ x, (ats rs "take" x).length ≤ 1
  src : ∀ x, ats rs "take" x ≠ [] → ats rs "send" x ≠ []
def Ltr (rs : List Ro) (i j : Nat) : Prop := ∃ x, i ∈ ats rs "send" x ∧ j ∈ ats rs "take" x
def lpD (p : Nat × Nat) : D := .tuple [natD p.1, natD p.2]
theorem EndsOk.get {rs : List Ro} {k : Str} {m : List (Key × List D)} (h : EndsOk rs k m) {x : Str} (hx : ats rs k x ≠ []) : getD? (toK m) (.inr x) = some (.list ((ats rs k x).map natD)) := by
  have key : ∀ l : List (Key × List D), (∀ p ∈ l, p.1 = .inr x → p.2 = (ats rs k x).map natD) → (∃ p ∈ l, p.1 = .inr x) → getD? (toK l) (.inr x) = some (.list ((ats rs k x).map natD)) := by
    intro l
    induction l with
    | nil => rintro _ ⟨p, hp, _⟩; cases hp
    | cons q l ih =>
      intro h1 h2
      unfold getD? toK
      rw [List.map_cons, List.find?_cons]
      by_cases c : q.1 = .inr x
      · rw [decide_eq_true (show (q.1, PyData.list q.2).1 = .inr x from c)]
        show some (PyData.list q.2) = _
        rw [h1 q (by simp) c]
      · rw [decide_eq_false (show ¬ (q.1, PyData.list q.2).1 = .inr x from c)]
        refine ih (fun p hp => h1 p (by simp [hp])) ?_
        obtain ⟨p, hp, e⟩ := h2
        rcases List.mem_cons.mp hp with rfl | hp
        · exact absurd e c
        · exact ⟨p, hp, e⟩
  refine key m (fun p hp e => ?_) (h.all x hx)
  obtain ⟨y, h1, h2, _⟩ := h.ok p hp
  rw [e] at h1
  cases h1
  exact h2
theorem one_of {l : List Nat} (h : l.length ≤ 1) (n : l ≠ []) : ∃ i, l = [i] := by
  match l, h, n with
  | [i], _, _ => exact ⟨i, rfl⟩
  | [], _, n => exact absurd rfl n
theorem EndsOk.keys {rs : List Ro} {k : Str} {m : List (Key × List D)} (h : EndsOk rs k m) : ∃ xs : List Str, ((toK m).map fun p => kD p.1) = xs.map PyData.str ∧ ∀ x, x ∈ xs ↔ ats rs k x ≠ [] := by
  have key : ∀ l : List (Key × List D), (∀ p ∈ l, ∃ x, p.1 = .inr x) → ∃ xs : List Str, ((toK l).map fun p => kD p.1) = xs.map PyData.str ∧ ∀ x, x ∈ xs ↔ ∃ p ∈ l, p.1 = .inr x := by
    intro l
    induction l with
    | nil => exact fun _ => ⟨[], rfl, fun x => ⟨(fun h => by cases h), (fun ⟨p, hp, _⟩ => by cases hp)⟩⟩
    | cons q l ih =>
      intro h
      obtain ⟨y, hy⟩ := h q (by simp)
      obtain ⟨xs, e1, e2⟩ := ih fun p hp => h p (by simp [hp])
      refine ⟨y :: xs, ?_, fun x => ?_⟩
      · have e3 : kD q.1 = .str y := by rw [hy]; rfl
        unfold toK at e1 ⊢
        rw [List.map_cons, List.map_cons, List.map_cons, e1]
        show kD q.1 :: _ = _
        rw [e3]
      · rw [List.mem_cons, e2]
        constructor
        · rintro (rfl | ⟨p, hp, e⟩)
          · exact ⟨q, by simp, hy⟩
          · exact ⟨p, by simp [hp], e⟩
        · rintro ⟨p, hp, e⟩
          rcases List.mem_cons.mp hp with rfl | hp
          · rw [hy] at e
            cases e
            exact .inl rfl
          · exact .inr ⟨p, hp, e⟩
  obtain ⟨xs, e1, e2⟩ := key m fun p hp => let ⟨x, h1, _⟩ := h.ok p hp; ⟨x, h1⟩
  refine ⟨xs, e1, fun x => ?_⟩
  rw [e2]
  constructor
  · rintro ⟨p, hp, e⟩
    obtain ⟨y, h1, _, h3⟩ := h.ok p hp
    rw [e] at h1
    cases h1
    exact h3
  · exact h.all x
theorem alike_strs (xs : List Str) : PySem.W.AllAlike (xs.map PyData.str) := fun d hd d' hd' => by
  obtain ⟨x, _, rfl⟩ := List.mem_map.mp hd
  obtain ⟨y, _, rfl⟩ := List.mem_map.mp hd'
  rfl
theorem sortable_strs (xs : List Str) : PySem.W.Sortable (xs.map PyData.str) := .inr fun d hd => by
  obtain ⟨x, _, rfl⟩ := List.mem_map.mp hd
  exact ⟨(fun h => by cases h), (fun xs h => by cases h)⟩
def strOf : D → Str
  | .str x => x
  | _ => ""
theorem strs_of {l : List D} {xs : List Str} (h : l.Perm (xs.map PyData.str)) : ∃ ys : List Str, l = ys.map PyData.str ∧ ys.Perm xs := by
  have key : ∀ l : List D, (∀ d ∈ l, ∃ x, d = .str x) → ∃ ys : List Str, l = ys.map PyData.str := by
    intro l
    induction l with
    | nil => exact fun _ => ⟨[], rfl⟩
    | cons d l ih =>
      intro h
      obtain ⟨x, rfl⟩ := h d (by simp)
      obtain ⟨ys, rfl⟩ := ih fun q hq => h q (by simp [hq])
      exact ⟨x :: ys, rfl⟩
  obtain ⟨ys, rfl⟩ := key l fun d hd => by
    obtain ⟨x, _, rfl⟩ := List.mem_map.mp (h.mem_iff.mp hd)
    exact ⟨x, rfl⟩
  refine ⟨ys, rfl, ?_⟩
  have hu : ∀ zs : List Str, (zs.map PyData.str).map strOf = zs := fun zs => by
    rw [List.map_map]
    exact List.map_id _
  have := h.map strOf
  rwa [hu, hu] at this
theorem lps_lf (f : Str → Nat × Nat) : ∀ l : List Str, lfAll (l.map fun x => lpD (f x)) = true
  | [] => rfl
  | x :: l => by
    rw [List.map_cons]
    exact lps_lf f l
theorem m_letters_of {rs : List Ro} {C : Rs → Prop} (hl : rs.length ≤ 1000) (ok : LtOk rs) (hC : ∀ Ls : List (Nat × Nat), (∀ i j, (i, j) ∈ Ls ↔ Ltr rs i j) → C (.lst (Ls.map lpD))) : S_letters_of [.dat (.tuple (rs.map roD))] C := by
  unfold S_letters_of t_letters_of N_letters_of
  walk_at "pu"
  refine m_ends_of sh_send (by decide +kernel) hl fun m1 r1 h1 i1 => ?_
  refine m_ends_of sh_take (by decide +kernel) hl fun m2 r2 h2 i2 => ?_
  rw [i1.slot, i2.slot]
  refine ⟨h1.lf i1, h2.lf i2, ?_⟩
  walk_at "pu"
  obtain ⟨xs, e1, e2⟩ := h2.keys
  rw [e1]
  refine ⟨alike_strs xs, sortable_strs xs, ?_⟩
  obtain ⟨ys, e3, py⟩ := strs_of (List.mergeSort_perm (xs.map PyData.str) dLe)
  rw [e3]
  refine lcC_yes PyData.str (fun x => lpD ((ats rs "send" x).headD 0, (ats rs "take" x).headD 0)) ys [] (fun x hx P1 g1 => ?_) ?_
  · have t2 : ats rs "take" x ≠ [] := (e2 x).mp (py.mem_iff.mp hx)
    have t1 := ok.src x t2
    obtain ⟨i, hi⟩ := one_of (ok.s1 x) t1
    obtain ⟨j, hj⟩ := one_of (ok.t1 x) t2
    rw [hi, hj] at g1
    walk_at "pu"
    refine ⟨.inr x, _, rfl, h1.get t1, ?_⟩
    rw [hi]
    walk_at "pu"
    refine ⟨.inr x, _, rfl, h2.get t2, ?_⟩
    rw [hj]
    walk_at "pu"
    exact g1
  · rw [List.nil_append]
    have := hC (ys.map fun x => ((ats rs "send" x).headD 0, (ats rs "take" x).headD 0)) fun i j => ?_
    · rw [List.map_map] at this
      refine ⟨?_, this⟩
      exact lps_lf _ ys
    · rw [List.mem_map]
      constructor
      · rintro ⟨x, hx, e⟩
        have t2 : ats rs "take" x ≠ [] := (e2 x).mp (py.mem_iff.mp hx)
        obtain ⟨i', hi⟩ := one_of (ok.s1 x) (ok.src x t2)
        obtain ⟨j', hj⟩ := one_of (ok.t1 x) t2
        rw [hi, hj] at e
        cases e
        exact ⟨x, by rw [hi]; simp, by rw [hj]; simp⟩
      · rintro ⟨x, hi, hj⟩
        have t2 : ats rs "take" x ≠ [] := fun e => by rw [e] at hj; cases hj
        obtain ⟨i', hi'⟩ := one_of (ok.s1 x) (ok.src x t2)
        obtain ⟨j', hj'⟩ := one_of (ok.t1 x) t2
        refine ⟨x, py.mem_iff.mpr ((e2 x).mpr t2), ?_⟩
        rw [hi'] at hi ⊢
        rw [hj'] at hj ⊢
        rw [List.mem_singleton.mp hi, List.mem_singleton.mp hj]
        rfl

/-! ties gathered one by one -/
def addT (C : Tie) (a b : OI) (w : Int) : Tie := fun x y v => C x y v ∨ (x = a ∧ y = b ∧ v = w)
def topW (o : Option Int) (w : Int) : Int := match o with
  | some u => max u w
  | none => w
theorem TieOk.add {C : Tie} {ns : List OI} {ys : List (List OI × D)} {f : Far} (h : TieOk C ns ys f) {a b : OI} (ha : a ∈ ns) (hb : b ∈ ns) {w : Int} : TieOk (addT C a b w) ns (putT ys [a, b] (.int (topW (f a b) w))) (fset f a b (topW (f a b) w)) where
  dt := h.dt.put ha hb
  of x y v e := by
    by_cases c : x = a ∧ y = b
    · obtain ⟨rfl, rfl⟩ := c
      rw [fset_at] at e
      cases e
      unfold topW
      cases q : f x y with
      | none => exact .inr ⟨rfl, rfl, rfl⟩
      | some u =>
        dsimp only
        rcases Int.le_total u w with l | l
        · rw [Int.max_eq_right l]
          exact .inr ⟨rfl, rfl, rfl⟩
        · rw [Int.max_eq_left l]
          exact .inl (h.of _ _ _ q)
    · rw [fset_ne c] at e
      exact .inl (h.of _ _ _ e)
  to x y v e := by
    by_cases c : x = a ∧ y = b
    · obtain ⟨rfl, rfl⟩ := c
      refine ⟨_, fset_at, ?_⟩
      rcases e with e | ⟨_, _, rfl⟩
      · obtain ⟨u, q, l⟩ := h.to _ _ _ e
        rw [q]
        unfold topW
        dsimp only
        omega
      · unfold topW
        split <;> omega
    · rw [fset_ne c]
      rcases e with e | ⟨e1, e2, _⟩
      · exact h.to _ _ _ e
      · exact absurd ⟨e1, e2⟩ c
theorem TieOk.congr {C C' : Tie} {ns : List OI} {ys : List (List OI × D)} {f : Far} (h : TieOk C ns ys f) (e : ∀ a b w, C a b w ↔ C' a b w) : TieOk C' ns ys f :=
  ⟨h.dt, fun a b w q => (e a b w).mp (h.of a b w q), fun a b w q => h.to a b w ((e a b w).mpr q)⟩
theorem TieOk.none {ns : List OI} : TieOk (fun _ _ _ => False) ns [] (fun _ _ => none) :=
  ⟨⟨fun _ _ => rfl, .nil, (fun p hp => by cases hp), (fun p hp => by cases hp)⟩, (fun _ _ _ e => by cases e), fun _ _ _ e => e.elim⟩
/-! what is shown rises -/
theorem eqvAll_int : ∀ a b : List Int, PyData.eqvAll (a.map PyData.int) (b.map PyData.int) = decide (a = b)
  | [], [] => by simp [PyData.eqvAll]
  | [], _ :: _ => by simp [PyData.eqvAll]
  | _ :: _, [] => by simp [PyData.eqvAll]
  | x :: a, y :: b => by
    rw [List.map_cons, List.map_cons, PyData.eqvAll, eqvAll_int a b]
    by_cases h : x = y <;> by_cases h2 : a = b <;> simp [h, h2, PyData.eqv]
theorem eqv_intL (a b : List Int) : PyData.eqv (.list (a.map PyData.int)) (.list (b.map PyData.int)) = decide (a = b) := by
  rw [PyData.eqv, eqvAll_int]
theorem srt_same (l : List Int) : l = l.mergeSort (fun a b => decide (a ≤ b)) ↔ l.Pairwise (· ≤ ·) := by
  constructor
  · intro e
    have := List.pairwise_mergeSort (le := fun a b : Int => decide (a ≤ b)) (fun a b c h1 h2 => by simp only [decide_eq_true_eq] at h1 h2 ⊢; omega) (fun a b => by simp only [Bool.or_eq_true, decide_eq_true_eq]; omega) l
    rw [← e] at this
    exact this.imp fun h => by simpa using h
  · intro h
    exact (List.mergeSort_of_pairwise (h.imp fun h => by simpa using h)).symm
theorem srtI_eqD (l : List Int) : (l.map PyData.int).mergeSort dLe = (l.mergeSort fun a b => decide (a ≤ b)).map PyData.int := by
  refine (List.map_mergeSort (r := fun a b => decide (a ≤ b)) (s := dLe) (f := PyData.int) (l := l) fun x hx y hy => ?_).symm
  show decide (x ≤ y) = !PySem.W.dataLt (.int y) (.int x)
  rw [PySem.W.dataLt_int, PySem.W.not_lt_int]
theorem srtI_okD (l : List Int) : SortOk (l.map PyData.int) := by
  refine ⟨fun d hd => ?_, PySem.W.AllAlike.of fun p q => ?_, PySem.W.Sortable.others fun b => ⟨fun h => (by cases h), fun xs h => (by cases h)⟩⟩
  · obtain ⟨p, _, rfl⟩ := List.mem_map.mp hd
    rfl
  · simp [PySem.W.alike]
def shO (rs : List Ro) (i : Nat) : List Int := (rs.filter fun r => decide (r.w = i)).map (·.sh)
def Rises (rs : List Ro) (n : Nat) : Prop := ∀ i < n, (shO rs i).Pairwise (· ≤ ·)

/-- what binds two writers, and each to None -/
def BnE (bs : List Int) (n : Nat) : Tie := fun a b w => ∃ (i : Nat) (bd : Int), i < n ∧ bs[i]? = some bd ∧ w = -bd ∧ ((a = none ∧ b = some (i : Int)) ∨ (a = some (i : Int) ∧ b = none))
def LtE (least : Int) (rs : List Ro) (P : Nat → Nat → Prop) : Tie := fun a b w => ∃ i j r q, P i j ∧ rs[i]? = some r ∧ rs[j]? = some q ∧ a = some (q.w : Int) ∧ b = some (r.w : Int) ∧ w = least - q.sh + r.sh
def CsE (bs : List Int) (least : Int) (rs : List Ro) : Tie := fun a b w => BnE bs bs.length a b w ∨ LtE least rs (Ltr rs) a b w
def lgD (bs : List Int) (least : Int) (rs : List Ro) : D := .tuple [.tuple (bs.map PyData.int), .int least, .tuple (rs.map roD)]
def nodes (n : Nat) : List OI := none :: (List.range n).map fun i : Nat => (some (i : Int) : OI)
theorem nodes_nd (n : Nat) : (nodes n).Nodup := by
  unfold nodes
  rw [List.nodup_cons]
  refine ⟨fun h => ?_, ?_⟩
  · obtain ⟨i, _, e⟩ := List.mem_map.mp h
    cases e
  · refine List.Pairwise.map _ (fun a b h e => ?_) List.nodup_range
    have : (a : Int) = b := Option.some.inj e
    omega
theorem nodes_in {n i : Nat} (h : i < n) : some (i : Int) ∈ nodes n := List.mem_cons_of_mem _ (List.mem_map.mpr ⟨i, List.mem_range.mpr h, rfl⟩)
theorem nodes_none {n : Nat} : none ∈ nodes n := List.mem_cons_self ..
theorem nodes_len (n : Nat) : (nodes n).length = n + 1 := by simp [nodes]
theorem nodes_mem {n : Nat} {a : OI} (h : a ∈ nodes n) : a = none ∨ ∃ i, i < n ∧ a = some (i : Int) := by
  rcases List.mem_cons.mp h with h | h
  · exact .inl h
  · obtain ⟨i, hi, e⟩ := List.mem_map.mp h
    exact .inr ⟨i, List.mem_range.mp hi, e.symm⟩
theorem nodes_ok {n : Nat} (h : n ≤ 25) : ∀ a ∈ nodes n, NodeOk a := fun a ha i e => by
  rcases nodes_mem ha with rfl | ⟨j, hj, rfl⟩
  · cases e
  · cases e
    omega
theorem oiDs (a : OI) : oiD a = match a with | none => .none | some i => .int i := by cases a <;> rfl
theorem sh_intL (l : List Int) : sh 32 (.list (l.map PyData.int)) = true := by
  have : ∀ (n : Nat) (l : List Int), shAll n (l.map PyData.int) = true := by
    intro n l
    induction l with
    | nil => cases n <;> rfl
    | cons a l ih =>
      rw [List.map_cons]
      unfold shAll
      rw [ih, Bool.and_true]
      cases n <;> rfl
  exact this 31 l
theorem ro_0 {r : Ro} {C : D → Prop} : fIx (roD r) (.int 0) C = C (.int (r.w : Nat)) := by
  unfold roD
  walk_at "pu"
theorem ro_1 {r : Ro} {C : D → Prop} : fIx (roD r) (.int 1) C = C (.int r.sh) := by
  unfold roD
  walk_at "pu"
theorem ro_pair {i j : Nat} : (PyData.tuple [.int (i : Int), .int (j : Int)]) = .tuple [oiD (some (i : Int)), oiD (some (j : Int))] := rfl
theorem m_even_ties {bs : List Int} {least : Int} {rs : List Ro} {Z : Rs → Prop} (hb : bs.length ≤ 25) (hl : rs.length ≤ 1000) (ok : LtOk rs) (hw : ∀ r ∈ rs, r.w < bs.length)
    (hN : ¬ Rises rs bs.length → Z (.dat .none)) (hF : Rises rs bs.length → ∀ xs f, TieOk (CsE bs least rs) (nodes bs.length) xs f → Z (.th (.dt xs))) : S_even_ties [.dat (lgD bs least rs)] Z := by
  have hsz : ∀ {ys : List (List OI × D)} {f : Far}, DtOk (nodes bs.length) ys f → ys.length < 1000000 := fun h => by
    have h1 := h.len
    have h2 := nodes_len bs.length
    have : (nodes bs.length).length * (nodes bs.length).length ≤ 26 * 26 := Nat.mul_le_mul (by omega) (by omega)
    omega
  unfold S_even_ties t_even_ties N_even_ties lgD
  walk_at "pu"
  rw [enumD_eq]
  refine forC_en PyData.int bs (fun done ρ => ∃ ys f s5 s6 s7 s12, ρ = [.dat (lgD bs least rs), .dat (.tuple (bs.map PyData.int)), .dat (.int least), .dat (.tuple (rs.map roD)), .th (.dt ys), s5, s6, s7, .un, .un, .un, .un, s12] ∧ ownN (some s12) ∧ TieOk (BnE bs done.length) (nodes bs.length) ys f ∧ ∀ i < done.length, (shO rs i).Pairwise (· ≤ ·)) ?_ ?_ _ ⟨[], _, .un, .un, .un, .un, rfl, rfl, TieOk.none.congr fun a b w => ⟨fun h => h.elim, fun ⟨i, _, hi, _⟩ => by cases hi⟩, fun i hi => by cases hi⟩
  · rintro done bd todo ρ e ⟨ys, f, s5, s6, s7, s12, rfl, o12, ht, hr⟩ K hK
    have hlt : done.length < bs.length := by
      rw [e, List.length_append, List.length_cons]
      omega
    have hbd : bs[done.length]? = some bd := by
      rw [e, List.getElem?_append_right (Nat.le_refl _), Nat.sub_self]
      rfl
    have fr : ∀ a b w, f a b = some w → a ≠ some (done.length : Int) ∧ b ≠ some (done.length : Int) := fun a b w h => by
      obtain ⟨i, bd', hi, _, _, h3⟩ := ht.of _ _ _ h
      rcases h3 with ⟨rfl, rfl⟩ | ⟨rfl, rfl⟩
      · exact ⟨(fun z => by cases z), (fun z => by injection z with z; omega)⟩
      · exact ⟨(fun z => by injection z with z; omega), (fun z => by cases z)⟩
    have f1 : f none (some (done.length : Int)) = none := by
      cases h : f none (some (done.length : Int)) with
      | none => rfl
      | some w => exact absurd rfl (fr _ _ _ h).2
    have f2 : fset f none (some (done.length : Int)) (topW (f none (some (done.length : Int))) (-bd)) (some (done.length : Int)) none = none := by
      rw [fset_ne fun z => by cases z.1]
      cases h : f (some (done.length : Int)) none with
      | none => rfl
      | some w => exact absurd rfl (fr _ _ _ h).1
    have t1 := ht.add (a := none) (b := some (done.length : Int)) (w := -bd) nodes_none (nodes_in hlt)
    have t2 := t1.add (a := some (done.length : Int)) (b := none) (w := -bd) (nodes_in hlt) nodes_none
    rw [f1] at t1 t2
    rw [f1] at f2
    rw [f2] at t2
    have t3 := t2.congr (C' := BnE bs (done.length + 1)) fun a b w => by
      constructor
      · rintro ((⟨i, bd', h1, h2⟩ | ⟨rfl, rfl, rfl⟩) | ⟨rfl, rfl, rfl⟩)
        · exact ⟨i, bd', by omega, h2⟩
        · exact ⟨done.length, bd, by omega, hbd, rfl, .inl ⟨rfl, rfl⟩⟩
        · exact ⟨done.length, bd, by omega, hbd, rfl, .inr ⟨rfl, rfl⟩⟩
      · rintro ⟨i, bd', h1, h2, h3, h4⟩
        by_cases c : i = done.length
        · subst c
          rw [hbd] at h2
          cases h2
          rcases h4 with ⟨rfl, rfl⟩ | ⟨rfl, rfl⟩
          · exact .inl (.inr ⟨rfl, rfl, h3⟩)
          · exact .inr ⟨rfl, rfl, h3⟩
        · exact .inl (.inl ⟨i, bd', by omega, h2, h3, h4⟩)
    have t4 := t3
    rw [show done.length + 1 = (done ++ [bd]).length by rw [List.length_append]; rfl] at t4
    unfold b_even_ties_2
    walk_at "pu"
    refine ⟨_, thPut_2 (a := none) (b := some (done.length : Int)), hsz ht.dt, _, thPut_2 (a := some (done.length : Int)) (b := none), hsz t1.dt, o12, ?_⟩
    refine lcC_map roD (fun r => decide (r.w = done.length)) (fun r => .int r.sh) rs [] (fun r hr P1 P2 g1 g2 => ?_) ?_
    · unfold roD
      walk_at "pu"
      exact ⟨fun h => g1 (decide_eq_true (by omega)), fun h => g2 (decide_eq_false (by omega))⟩
    · rw [List.nil_append]
      have es : (rs.filter fun r => decide (r.w = done.length)).map (fun r => PyData.int r.sh) = (shO rs done.length).map PyData.int := by
        unfold shO
        rw [List.map_map]
        rfl
      rw [es]
      walk_at "pu"
      refine ⟨srtI_okD _, ?_⟩
      rw [srtI_eqD]
      refine ⟨sh_intL _, sh_intL _, ?_⟩
      rw [eqv_intL, if_pos rfl]
      by_cases c : (shO rs done.length).Pairwise (· ≤ ·)
      · rw [decide_eq_true ((srt_same _).mpr c)]
        refine ⟨(fun z => by cases z), fun _ => hK _ ⟨_, _, _, _, _, _, rfl, o12, t4, fun i hi => ?_⟩⟩
        · rw [List.length_append] at hi
          by_cases ci : i = done.length
          · rw [ci]
            exact c
          · exact hr i (by simp at hi; omega)
      · rw [decide_eq_false fun z => c ((srt_same _).mp z)]
        exact ⟨fun _ => hN fun h => c (h _ hlt), (fun z => by cases z)⟩
  · rintro ρ ⟨ys, f, s5, s6, s7, s12, rfl, o12, ht, hr⟩
    walk_at "pu"
    refine m_letters_of hl ok fun Ls hL => ?_
    walk_at "pu"
    refine forC_fr lpD Ls (fun dn ρ => ∃ ys f s5 s6 s7 s8 s9 s10 s11 s12, ρ = [.dat (lgD bs least rs), .dat (.tuple (bs.map PyData.int)), .dat (.int least), .dat (.tuple (rs.map roD)), .th (.dt ys), s5, s6, s7, s8, s9, s10, s11, s12] ∧ TieOk (fun a b w => BnE bs bs.length a b w ∨ LtE least rs (fun i j => (i, j) ∈ dn) a b w) (nodes bs.length) ys f) ?_ ?_ _ ⟨ys, f, _, _, _, _, _, _, _, _, rfl, ht.congr fun a b w => ⟨.inl, fun h => h.elim id fun ⟨i, j, _, _, h, _⟩ => by cases h⟩⟩
    · rintro dn ⟨i, j⟩ todo ρ e ⟨ys, f, s5, s6, s7, s8, s9, s10, s11, s12, rfl, ht⟩ K hK
      obtain ⟨x, hi, hj⟩ := (hL i j).mp (by rw [e]; simp)
      obtain ⟨r, er, _⟩ := ats_mem.mp hi
      obtain ⟨q, eq, _⟩ := ats_mem.mp hj
      have hrw := hw r (List.mem_of_getElem? er)
      have hqw := hw q (List.mem_of_getElem? eq)
      have gr : (rs.map roD)[i]? = some (roD r) := by rw [List.getElem?_map, er]; rfl
      have gq : (rs.map roD)[j]? = some (roD q) := by rw [List.getElem?_map, eq]; rfl
      have t1 := ht.add (a := some (q.w : Int)) (b := some (r.w : Int)) (w := least - q.sh + r.sh) (nodes_in hqw) (nodes_in hrw)
      unfold b_even_ties_1 lpD natD
      walk_at "pu"
      simp only [atI_nat gq, atI_nat gr, ixC_some, ro_0, ro_1]
      walk_at "pu"
      simp only [ro_pair, thGet_2, thPut_2, ht.dt.get, Option.some.injEq, exists_eq_left']
      have e3 : ∀ o : Option Int, (if least - q.sh + r.sh > o.getD (least - q.sh + r.sh) then least - q.sh + r.sh else o.getD (least - q.sh + r.sh)) = topW o (least - q.sh + r.sh) := fun o => by
        cases o with
        | none => unfold topW; simp
        | some u =>
          unfold topW
          dsimp only [Option.getD_some]
          split <;> omega
      have fin : K [.dat (lgD bs least rs), .dat (.tuple (bs.map PyData.int)), .dat (.int least), .dat (.tuple (rs.map roD)), .th (.dt (putT ys [some (q.w : Int), some (r.w : Int)] (.int (topW (f (some (q.w : Int)) (some (r.w : Int))) (least - q.sh + r.sh))))), s5, s6, s7, .dat (.int (i : Int)), .dat (.int (j : Int)), .dat (.tuple [.int (q.w : Int), .int (r.w : Int)]), .dat (.int (least - q.sh + r.sh)), s12] := by
        refine hK _ ⟨_, _, _, _, _, _, _, _, _, _, rfl, t1.congr fun a b w => ?_⟩
        constructor
        · rintro ((h | ⟨i', j', r', q', h, h2⟩) | ⟨rfl, rfl, rfl⟩)
          · exact .inl h
          · exact .inr ⟨i', j', r', q', List.mem_append_left _ h, h2⟩
          · exact .inr ⟨i, j, r, q, by simp, er, eq, rfl, rfl, rfl⟩
        · rintro (h | ⟨i', j', r', q', h, h2, h3, h4⟩)
          · exact .inl (.inl h)
          · rcases List.mem_append.mp h with h | h
            · exact .inl (.inr ⟨i', j', r', q', h, h2, h3, h4⟩)
            · have h := List.mem_singleton.mp h
              injection h with h5 h6
              subst h5 h6
              rw [er] at h2
              rw [eq] at h3
              cases h2
              cases h3
              exact .inr h4
      cases e4 : f (some (q.w : Int)) (some (r.w : Int)) with
      | none =>
        rw [e4] at fin
        rw [← e3] at fin
        exact ⟨hsz ht.dt, fin⟩
      | some u =>
        rw [e4] at fin
        rw [← e3] at fin
        exact ⟨hsz ht.dt, fin⟩
    · rintro ρ ⟨ys, f, s5, s6, s7, s8, s9, s10, s11, s12, rfl, ht⟩
      walk_at "pu"
      exact ⟨ht.dt.lf, hF hr ys f (ht.congr fun a b w => by
        unfold CsE LtE
        simp only [hL])⟩

structure LgOk (bs : List Int) (rs : List Ro) : Prop where
  hb : bs.length ≤ 24
  hl : rs.length ≤ 1000
  ok : LtOk rs
  hw : ∀ r ∈ rs, r.w < bs.length
/-- no offs -/
def NoOffs (bs : List Int) (least : Int) (rs : List Ro) : Prop := ¬ Rises rs bs.length ∨ ∃ a v, 0 < v ∧ Wk (CsE bs least rs) a a v
theorem noOffs_pot {bs : List Int} {least : Int} {rs : List Ro} {φ : OI → Int} (h : NoOffs bs least rs) (r : Rises rs bs.length) (p : Pot (CsE bs least rs) φ) : False := by
  rcases h with h | ⟨a, v, h1, h2⟩
  · exact h r
  · have := h2.pot p
    omega
theorem nodes_D (n : Nat) : PyData.none :: (List.range n).map (fun i : Nat => PyData.int (i : Int)) = (nodes n).map oiD := by
  unfold nodes
  rw [List.map_cons, List.map_map]
  rfl
theorem m_even_far {bs : List Int} {least : Int} {rs : List Ro} {Z : Rs → Prop} (lo : LgOk bs rs) (hN : NoOffs bs least rs → Z (.dat .none)) (hF : Rises rs bs.length → ∀ ys f, DtOk (nodes bs.length) ys f → FarOk (CsE bs least rs) (nodes bs.length) f → Z (.th (.dt ys))) : S_even_far [.dat (lgD bs least rs)] Z := by
  have hb := lo.hb
  unfold S_even_far t_even_far N_even_far
  walk_at "pu"
  refine m_even_ties (by omega) lo.hl lo.ok lo.hw (fun h => ?_) fun hr xs f ht => ?_
  · walk_at "pu"
    exact hN (.inl h)
  · walk_at "pu"
    unfold lgD
    walk_at "pu"
    refine ⟨bs.length, by rw [List.length_map], by omega, by rw [List.length_map, List.length_range]; omega, ?_⟩
    rw [nodes_D]
    refine m_farthest (nodes_nd _) (by rw [nodes_len]; omega) ht (oth_nd (nodes_ok (by omega)) ht.dt) (fun a _ v hv w => ⟨rfl, hN (.inr ⟨a, v, hv, w⟩)⟩) fun ys g hd hg => ⟨hd.lf, hF hr ys g hd hg⟩
theorem m_can_be_even {bs : List Int} {least : Int} {rs : List Ro} {Z : Rs → Prop} (lo : LgOk bs rs) (hN : NoOffs bs least rs → Z (.dat (.bool false))) (hF : Rises rs bs.length → ∀ f, FarOk (CsE bs least rs) (nodes bs.length) f → Z (.dat (.bool true))) : S_can_be_even [.dat (lgD bs least rs)] Z := by
  unfold S_can_be_even t_can_be_even N_can_be_even
  walk_at "pu"
  refine m_even_far lo (fun h => ?_) fun hr ys f hd hf => ?_
  · walk_at "pu"
    exact hN h
  · walk_at "pu"
    exact hF hr f hf
theorem m_look_writer {bs : List Int} {least : Int} {rs : List Ro} {i : Nat} {Z : Rs → Prop} (hi : i < bs.length) (hb : bs.length ≤ 1000000) (hZ : Z (.dat .none)) : S_look_writer [.dat (lgD bs least rs), .dat (.int (i : Int))] Z := by
  unfold S_look_writer t_look_writer N_look_writer lgD
  walk_at "pu"
  refine m_is_whole (i := (i : Int)) (lo := some 0) (hi := some ((bs.map PyData.int).length - 1)) ?_
  walk_at "pu"
  have e : wholeB (i : Int) (some 0) (some (((bs.map PyData.int).length : Int) - 1)) = true := by
    unfold wholeB
    rw [List.length_map, Bool.and_eq_true, decide_eq_true_iff, decide_eq_true_iff]
    omega
  rw [e]
  exact ⟨(fun z => by cases z), fun _ => hZ⟩
theorem m_offs_held {bs : List Int} {least : Int} {rs : List Ro} {Z : Rs → Prop} (lo : LgOk bs rs) (hn : ¬ NoOffs bs least rs) (hF : Rises rs bs.length → ∀ ys f, DtOk (nodes bs.length) ys f → FarOk (CsE bs least rs) (nodes bs.length) f → Z (.th (.dt ys))) : S_offs_held [.dat (lgD bs least rs)] Z := by
  unfold S_offs_held t_offs_held N_offs_held
  walk_at "pu"
  refine m_even_far lo (fun h => absurd h hn) fun hr ys f hd hf => ?_
  walk_at "pu"
  exact ⟨hd.lf, hF hr ys f hd hf⟩
theorem bnE_to {bs : List Int} {least : Int} {rs : List Ro} {i : Nat} (hi : i < bs.length) : CsE bs least rs none (some (i : Int)) (-bs[i]) ∧ CsE bs least rs (some (i : Int)) none (-bs[i]) :=
  ⟨.inl ⟨i, bs[i], hi, List.getElem?_eq_getElem hi, rfl, .inl ⟨rfl, rfl⟩⟩, .inl ⟨i, bs[i], hi, List.getElem?_eq_getElem hi, rfl, .inr ⟨rfl, rfl⟩⟩⟩
theorem far_some {bs : List Int} {least : Int} {rs : List Ro} {f : Far} (h : FarOk (CsE bs least rs) (nodes bs.length) f) {a b : OI} (ha : a ∈ nodes bs.length) (hb : b ∈ nodes bs.length) : ∃ v, f a b = some v := by
  have t : ∀ c ∈ nodes bs.length, (∃ v, f c none = some v) ∧ ∃ v, f none c = some v := fun c hc => by
    rcases nodes_mem hc with rfl | ⟨i, hi, rfl⟩
    · exact ⟨⟨0, h.diag _ nodes_none⟩, ⟨0, h.diag _ nodes_none⟩⟩
    · obtain ⟨v, e, _⟩ := h.tie _ _ _ (bnE_to hi).1
      obtain ⟨w, e2, _⟩ := h.tie _ _ _ (bnE_to hi).2
      exact ⟨⟨w, e2⟩, ⟨v, e⟩⟩
  obtain ⟨u, hu⟩ := (t a ha).1
  obtain ⟨v, hv⟩ := (t b hb).2
  obtain ⟨w, hw, _⟩ := h.tri _ _ _ _ _ hu hv
  exact ⟨w, hw⟩
def FF (f : Far) (i j : Nat) : Int := (f (some (i : Int)) (some (j : Int))).getD 0
theorem ff_eq {bs : List Int} {least : Int} {rs : List Ro} {f : Far} (h : FarOk (CsE bs least rs) (nodes bs.length) f) {i j : Nat} (hi : i < bs.length) (hj : j < bs.length) : f (some (i : Int)) (some (j : Int)) = some (FF f i j) := by
  obtain ⟨v, e⟩ := far_some h (nodes_in hi) (nodes_in hj)
  unfold FF
  rw [e]
  rfl
theorem m_offs_between {bs : List Int} {least : Int} {rs : List Ro} {i j : Nat} {Z : Rs → Prop} (lo : LgOk bs rs) (hi : i < bs.length) (hj : j < bs.length) (hn : ¬ NoOffs bs least rs) (hF : Rises rs bs.length → ∀ f, FarOk (CsE bs least rs) (nodes bs.length) f → Z (.dat (.tuple [.int (FF f i j), .int (-FF f j i)]))) : S_offs_between [.dat (lgD bs least rs), .dat (.int (i : Int)), .dat (.int (j : Int))] Z := by
  have hb := lo.hb
  unfold S_offs_between t_offs_between N_offs_between
  walk_at "pu"
  refine m_look_writer hi (by omega) ?_
  refine m_look_writer hj (by omega) ?_
  refine m_offs_held lo hn fun hr ys f hd hf => ?_
  walk_at "pu"
  simp only [ro_pair, thGet_2, hd.get, ff_eq hf hi hj, ff_eq hf hj hi, Option.map_some, Option.some.injEq, exists_eq_left']
  walk_at "pu"
  exact hF hr f hf
def midF (f : Far) (one i : Nat) : Int := (FF f one i + -FF f i one) / 2
def bndF (f : Far) (one i : Nat) : Int := (-FF f i one - FF f one i + 1) / 2
def srB (f : Far) (one n : Nat) : List Int := (List.range n).map (bndF f one)
def srR (f : Far) (one : Nat) (r : Ro) : Ro := { r with sh := r.sh - midF f one r.w }
theorem rng_nats (n : Nat) : rngD 0 n = (List.range n).map natD := by
  unfold rngD
  refine List.map_congr_left fun i _ => ?_
  show PyData.int (0 + (i : Int)) = .int i
  rw [Int.zero_add]
theorem lf_intsR : ∀ l : List Int, lfAll (l.map PyData.int) = true
  | [] => rfl
  | _ :: l => by rw [List.map_cons]; exact lf_intsR l
theorem lf_ev (e : Ev) : lf e.l = true := by cases e <;> rfl
theorem lf_ros : ∀ l : List Ro, lfAll (l.map roD) = true
  | [] => rfl
  | r :: l => by
    rw [List.map_cons]
    show (lf (roD r) && lfAll (l.map roD)) = true
    rw [lf_ros l, Bool.and_true]
    unfold roD
    show (true && (true && (true && (lf r.ev.l && true)))) = true
    rw [lf_ev]
    rfl
theorem m_set_right {bs : List Int} {least : Int} {rs : List Ro} {one : Nat} {Z : Rs → Prop} (lo : LgOk bs rs) (hi : one < bs.length) (hn : ¬ NoOffs bs least rs) (hF : Rises rs bs.length → ∀ f, FarOk (CsE bs least rs) (nodes bs.length) f → Z (.dat (lgD (srB f one bs.length) least (rs.map (srR f one))))) : S_set_right [.dat (lgD bs least rs), .dat (.int (one : Int))] Z := by
  have hb := lo.hb
  have hl := lo.hl
  unfold S_set_right t_set_right N_set_right
  walk_at "pu"
  refine m_look_writer hi (by omega) ?_
  refine m_offs_held lo hn fun hr ys f hd hf => ?_
  unfold lgD
  walk_at "pu"
  refine ⟨by rw [List.length_map]; omega, by rw [List.length_map]; omega, ?_⟩
  have e0 : (((bs.map PyData.int).length : Int) - 0).toNat = bs.length := by rw [List.length_map]; omega
  try rw [e0]
  have e1 : ((bs.map PyData.int).length : Int).toNat = bs.length := by rw [List.length_map]; omega
  try rw [e1]
  rw [rng_nats]
  refine lcC_yes natD (fun i => .tuple [.int (FF f one i), .int (-FF f i one)]) (List.range bs.length) [] (fun i hi2 P1 g1 => ?_) ?_
  · have hi2 := List.mem_range.mp hi2
    unfold natD
    walk_at "pu"
    simp only [ro_pair, thGet_2, hd.get, ff_eq hf hi hi2, ff_eq hf hi2 hi, Option.map_some, Option.some.injEq, exists_eq_left']
    walk_at "pu"
    exact g1
  rw [List.nil_append]
  refine lcC_yes (fun i => .tuple [.int (FF f one i), .int (-FF f i one)]) (fun i => .int (midF f one i)) (List.range bs.length) [] (fun i hi2 P1 g1 => ?_) ?_
  · walk_at "pu"
    exact ⟨⟨by decide, by decide⟩, g1⟩
  rw [List.nil_append]
  refine lcC_yes (fun i => .tuple [.int (FF f one i), .int (-FF f i one)]) (fun i => .int (bndF f one i)) (List.range bs.length) [] (fun i hi2 P1 g1 => ?_) ?_
  · walk_at "pu"
    exact ⟨⟨by decide, by decide⟩, g1⟩
  rw [List.nil_append]
  refine lcC_yes roD (fun r => roD (srR f one r)) rs [] (fun r hr2 P1 g1 => ?_) ?_
  · have hw := lo.hw r hr2
    have gm : ((List.range bs.length).map fun i => PyData.int (midF f one i))[r.w]? = some (.int (midF f one r.w)) := by
      rw [List.getElem?_map, List.getElem?_range hw]
      rfl
    unfold roD
    walk_at "pu"
    simp only [atI_nat gm, ixC_some]
    walk_at "pu"
    exact g1
  rw [List.nil_append]
  have e4 : (List.range bs.length).map (fun i => PyData.int (bndF f one i)) = (srB f one bs.length).map PyData.int := by
    unfold srB
    rw [List.map_map]
    rfl
  have e5 : rs.map (fun r => roD (srR f one r)) = (rs.map (srR f one)).map roD := by
    rw [List.map_map]
    rfl
  rw [e4, e5, Bool.and_eq_true]
  exact ⟨⟨lf_intsR _, lf_ros _⟩, hF hr f hf⟩

def rs96 (b m a h : Int) : List Ro := [⟨0, b, .send "there"⟩, ⟨1, m, .take "there"⟩, ⟨1, a, .send "back"⟩, ⟨0, h, .take "back"⟩]
theorem ne96 : ("there" : Str) ≠ "back" := by decide +kernel
theorem ks96 : ("send" : Str) ≠ "take" := by decide +kernel
theorem at96s {b m a h : Int} {x : Str} : ats (rs96 b m a h) "send" x = if x = "there" then [0] else if x = "back" then [2] else [] := by
  have n := ne96
  have k := ks96
  have q1 : ∀ y : Str, isAt "send" x ⟨0, b, .send y⟩ = decide (y = x) := fun y => by simp [isAt, Ev.k, Ev.l]
  unfold ats rs96 atsF
  simp only [atsF, isAt, Ev.k, Ev.l, decide_true, Bool.true_and, decide_eq_true_eq, Ne.symm k, decide_false, Bool.false_and, Bool.false_eq_true, if_false]
  by_cases h1 : x = "there"
  · subst h1
    simp [n, Ne.symm n]
  · by_cases h2 : x = "back"
    · subst h2
      simp [n, Ne.symm n]
    · simp [h1, h2, Ne.symm h1, Ne.symm h2]
theorem at96t {b m a h : Int} {x : Str} : ats (rs96 b m a h) "take" x = if x = "there" then [1] else if x = "back" then [3] else [] := by
  have n := ne96
  have k := ks96
  unfold ats rs96 atsF
  simp only [atsF, isAt, Ev.k, Ev.l, decide_true, Bool.true_and, decide_eq_true_eq, k, decide_false, Bool.false_and, Bool.false_eq_true, if_false]
  by_cases h1 : x = "there"
  · subst h1
    simp [n, Ne.symm n]
  · by_cases h2 : x = "back"
    · subst h2
      simp [n, Ne.symm n]
    · simp [h1, h2, Ne.symm h1, Ne.symm h2]
theorem ok96 {b m a h b0 b1 : Int} : LgOk [b0, b1] (rs96 b m a h) where
  hb := by show (2 : Nat) ≤ 24; decide
  hl := by show (4 : Nat) ≤ 1000; decide
  ok := by
    refine ⟨fun x => ?_, fun x => ?_, fun x => ?_⟩
    · rw [at96s]
      split
      · decide
      · split <;> decide
    · rw [at96t]
      split
      · decide
      · split <;> decide
    · rw [at96s, at96t]
      split
      · simp
      · split <;> simp
  hw r hr := by
    unfold rs96 at hr
    simp only [List.mem_cons, List.not_mem_nil, or_false] at hr
    rcases hr with rfl | rfl | rfl | rfl
    · show (0 : Nat) < 2; decide
    · show (1 : Nat) < 2; decide
    · show (1 : Nat) < 2; decide
    · show (0 : Nat) < 2; decide
theorem ltr96 {b m a h : Int} {i j : Nat} : Ltr (rs96 b m a h) i j ↔ (i = 0 ∧ j = 1) ∨ (i = 2 ∧ j = 3) := by
  have n := ne96
  unfold Ltr
  constructor
  · rintro ⟨x, h1, h2⟩
    rw [at96s] at h1
    rw [at96t] at h2
    by_cases c : x = "there"
    · rw [if_pos c] at h1 h2
      exact .inl ⟨List.mem_singleton.mp h1, List.mem_singleton.mp h2⟩
    · rw [if_neg c] at h1 h2
      by_cases c2 : x = "back"
      · rw [if_pos c2] at h1 h2
        exact .inr ⟨List.mem_singleton.mp h1, List.mem_singleton.mp h2⟩
      · rw [if_neg c2] at h1
        cases h1
  · rintro (⟨rfl, rfl⟩ | ⟨rfl, rfl⟩)
    · exact ⟨"there", by rw [at96s, if_pos rfl]; simp, by rw [at96t, if_pos rfl]; simp⟩
    · exact ⟨"back", by rw [at96s, if_neg (Ne.symm n), if_pos rfl]; simp, by rw [at96t, if_neg (Ne.symm n), if_pos rfl]; simp⟩
theorem rises96 {b m a h : Int} (h1 : b ≤ h) (h2 : m ≤ a) : Rises (rs96 b m a h) 2 := fun i hi => by
  have : i = 0 ∨ i = 1 := by omega
  rcases this with rfl | rfl
  · show List.Pairwise _ [b, h]
    simp [h1]
  · show List.Pairwise _ [m, a]
    simp [h2]
theorem pot96 {b m a h b0 b1 L n0 n1 : Int} (p0 : n0 ≤ b0) (p1 : -b0 ≤ n0) (p2 : n1 ≤ b1) (p3 : -b1 ≤ n1) (q0 : n1 + (L - m + b) ≤ n0) (q1 : n0 + (L - h + a) ≤ n1) :
    Pot (CsE [b0, b1] L (rs96 b m a h)) (fun o => match o with | none => 0 | some i => if i = 0 then n0 else n1) := by
  intro x y w hc
  rcases hc with ⟨i, bd, hi, e, rfl, hx⟩ | ⟨i, j, r, q, hl, e1, e2, rfl, rfl, rfl⟩
  · have hi : i = 0 ∨ i = 1 := by simp at hi; omega
    rcases hi with rfl | rfl
    · cases e
      rcases hx with ⟨rfl, rfl⟩ | ⟨rfl, rfl⟩
      · show 0 + -b0 ≤ (if (0 : Int) = 0 then n0 else n1)
        rw [if_pos rfl]; omega
      · show (if (0 : Int) = 0 then n0 else n1) + -b0 ≤ 0
        rw [if_pos rfl]; omega
    · cases e
      rcases hx with ⟨rfl, rfl⟩ | ⟨rfl, rfl⟩
      · show 0 + -b1 ≤ (if (1 : Int) = 0 then n0 else n1)
        rw [if_neg (by decide)]; omega
      · show (if (1 : Int) = 0 then n0 else n1) + -b1 ≤ 0
        rw [if_neg (by decide)]; omega
  · rcases ltr96.mp hl with ⟨rfl, rfl⟩ | ⟨rfl, rfl⟩
    · cases e1
      cases e2
      show (if (1 : Int) = 0 then n0 else n1) + (L - m + b) ≤ (if (0 : Int) = 0 then n0 else n1)
      rw [if_neg (by decide), if_pos rfl]
      exact q0
    · cases e1
      cases e2
      show (if (0 : Int) = 0 then n0 else n1) + (L - h + a) ≤ (if (1 : Int) = 0 then n0 else n1)
      rw [if_pos rfl, if_neg (by decide)]
      exact q1
theorem tie96 {b m a h b0 b1 L : Int} : CsE [b0, b1] L (rs96 b m a h) (some 1) (some 0) (L - m + b) ∧ CsE [b0, b1] L (rs96 b m a h) (some 0) (some 1) (L - h + a) :=
  ⟨.inr ⟨0, 1, _, _, ltr96.mpr (.inl ⟨rfl, rfl⟩), rfl, rfl, rfl, rfl, rfl⟩, .inr ⟨2, 3, _, _, ltr96.mpr (.inr ⟨rfl, rfl⟩), rfl, rfl, rfl, rfl, rfl⟩⟩
theorem rsD96 {b m a h : Int} : (rs96 b m a h).map roD = [.tuple [.int 0, .int b, .str "send", .str "there"], .tuple [.int 1, .int m, .str "take", .str "there"], .tuple [.int 1, .int a, .str "send", .str "back"], .tuple [.int 0, .int h, .str "take", .str "back"]] := rfl
theorem no96 {b m a h b0 b1 L n0 n1 : Int} (s1 : b ≤ h) (s2 : m ≤ a) (p0 : n0 ≤ b0) (p1 : -b0 ≤ n0) (p2 : n1 ≤ b1) (p3 : -b1 ≤ n1) (q0 : n1 + (L - m + b) ≤ n0) (q1 : n0 + (L - h + a) ≤ n1) : ¬ NoOffs [b0, b1] L (rs96 b m a h) :=
  fun z => noOffs_pot z (rises96 s1 s2) (pot96 p0 p1 p2 p3 q0 q1)
theorem ff96 {b m a h b0 b1 L : Int} {f : Far} (hf : FarOk (CsE [b0, b1] L (rs96 b m a h)) (nodes 2) f) (hb : 0 ≤ b0) (p1 : L - h + a ≤ b1) (p2 : -b1 ≤ L - h + a) (q1 : L - m + b ≤ b1) (q2 : -b1 ≤ L - m + b) (pq : (L - m + b) + (L - h + a) ≤ 0) :
    FF f 0 1 = L - h + a ∧ FF f 1 0 = L - m + b ∧ FF f 0 0 = 0 ∧ FF f 1 1 = 0 := by
  obtain ⟨t1, t2⟩ := tie96 (b := b) (m := m) (a := a) (h := h) (b0 := b0) (b1 := b1) (L := L)
  obtain ⟨v1, e1, l1⟩ := hf.tie _ _ _ t1
  obtain ⟨v2, e2, l2⟩ := hf.tie _ _ _ t2
  have w1 := (hf.walk _ _ _ e1).pot (pot96 (n0 := 0) (n1 := -(L - m + b)) hb (by omega) (by omega) (by omega) (by omega) (by omega))
  have w2 := (hf.walk _ _ _ e2).pot (pot96 (n0 := 0) (n1 := L - h + a) hb (by omega) (by omega) (by omega) (by omega) (by omega))
  have w1 : -(L - m + b) + v1 ≤ 0 := w1
  have w2 : 0 + v2 ≤ L - h + a := w2
  have d0 := hf.diag (some ((0 : Nat) : Int)) (nodes_in (by decide))
  have d1 := hf.diag (some ((1 : Nat) : Int)) (nodes_in (by decide))
  have g1 : f (some ((1 : Nat) : Int)) (some ((0 : Nat) : Int)) = some v1 := e1
  have g2 : f (some ((0 : Nat) : Int)) (some ((1 : Nat) : Int)) = some v2 := e2
  unfold FF
  rw [g1, g2, d0, d1]
  refine ⟨?_, ?_, rfl, rfl⟩
  · show v2 = _
    omega
  · show v1 = _
    omega
theorem feq2 {a b c d : Int} {C : Bool → Prop} (h1 : a = c) (h2 : b = d) (hc : C false) : fEq true (.tuple [.int a, .int b]) (.tuple [.int c, .int d]) C := by
  subst h1 h2
  have e : PyData.eqv (.tuple [.int a, .int b]) (.tuple [.int a, .int b]) = true := by simp [PyData.eqv, PyData.eqvAll]
  refine ⟨rfl, rfl, ?_⟩
  rw [if_pos rfl, e]
  exact hc
theorem far_wk {C : Tie} {ns : List OI} {f : Far} (hf : FarOk C ns f) {a b : OI} {v : Int} (ha : a ∈ ns) (h : Wk C a b v) : ∃ t, f a b = some t ∧ v ≤ t := by
  induction h with
  | nil => exact ⟨0, hf.diag _ ha, Int.le_refl _⟩
  | snoc _ t ih =>
    obtain ⟨u, e1, l1⟩ := ih
    obtain ⟨w, e2, l2⟩ := hf.tie _ _ _ t
    obtain ⟨z, e3, l3⟩ := hf.tri _ _ _ _ _ e1 e2
    exact ⟨z, e3, by omega⟩
theorem far_cyc {C : Tie} {ns : List OI} {f : Far} (hf : FarOk C ns f) {a : OI} {v : Int} (ha : a ∈ ns) (h : Wk C a a v) : v ≤ 0 := by
  obtain ⟨t, e, l⟩ := far_wk hf ha h
  rw [hf.diag a ha] at e
  cases e
  exact l
theorem feqB {z w : Bool} {C : Bool → Prop} (h : z = w) (hc : C false) : fEq true (.bool z) (.bool w) C := by
  subst h
  refine ⟨rfl, rfl, ?_⟩
  have e : PyData.eqv (.bool z) (.bool z) = true := by cases z <;> rfl
  rw [if_pos rfl, e]
  exact hc
theorem cyc96 {b m a h b0 b1 L : Int} {f : Far} (hf : FarOk (CsE [b0, b1] L (rs96 b m a h)) (nodes 2) f) : (L - m + b) + (L - h + a) ≤ 0 ∧ (L - h + a) + -b1 + -b0 ≤ 0 ∧ (L - m + b) + -b0 + -b1 ≤ 0 := by
  obtain ⟨t1, t2⟩ := tie96 (b := b) (m := m) (a := a) (h := h) (b0 := b0) (b1 := b1) (L := L)
  obtain ⟨u1, u2⟩ := bnE_to (bs := [b0, b1]) (least := L) (rs := rs96 b m a h) (i := 0) (show (0 : Nat) < 2 by decide)
  obtain ⟨v1, v2⟩ := bnE_to (bs := [b0, b1]) (least := L) (rs := rs96 b m a h) (i := 1) (show (1 : Nat) < 2 by decide)
  refine ⟨far_cyc hf (nodes_in (i := 1) (by decide)) ((Wk.one t1).snoc t2), far_cyc hf (nodes_in (i := 0) (by decide)) (((Wk.one t2).snoc v2).snoc u1), far_cyc hf (nodes_in (i := 1) (by decide)) (((Wk.one t1).snoc u2).snoc v1)⟩
theorem lcC2 {g : UG} {te : UV} {C : List D → Prop} {ρ : En} (a b : D) (h : g a ρ fun ρ2 => te ρ2 fun v => g b ρ fun ρ2 => te ρ2 fun w => C [v, w]) : lcC g bYes te C ρ [a, b] [] := by
  unfold lcC
  simp only [bYes, forall_const, reduceCtorEq, false_implies, and_true, true_implies]
  unfold lcC
  simp only [bYes, forall_const, reduceCtorEq, false_implies, and_true, true_implies]
  unfold lcC
  exact h
theorem law_m (ns : List Int) (hl : ns.length ≤ 63) (hL : sl.L = ns.length) : t_law edLaw (enLaw N_law 1 ns) := by
  unfold t_law edLaw enLaw N_law
  walk_at "pu"
  refine m_draw hl hL (by decide) (by decide) fun L l0 l1 => ?_
  walk_at "pu"
  refine ⟨by decide, by decide, ?_⟩
  refine lcC2 (.int 0) (.int 1) ?_
  walk_at "pu"
  refine m_draw hl hL (by decide) (by decide) fun x0 x0a x0b => ?_
  walk_at "pu"
  refine m_draw hl hL (by decide) (by decide) fun x1 x1a x1b => ?_
  walk_at "pu"
  refine m_draw hl hL (by decide) (by decide) fun o oa ob => ?_
  walk_at "pu"
  refine m_draw hl hL (by decide) (by decide) fun bg bga bgb => ?_
  walk_at "pu"
  refine m_draw hl hL (by decide) (by decide) fun an ana anb => ?_
  walk_at "pu"
  refine ⟨by decide, ?_⟩
  obtain ⟨w0, hw0⟩ : ∃ w0, w0 = L + x0 := ⟨_, rfl⟩
  obtain ⟨w1, hw1⟩ : ∃ w1, w1 = L + x1 := ⟨_, rfl⟩
  obtain ⟨off, hoff⟩ : ∃ off, off = o - 100 := ⟨_, rfl⟩
  obtain ⟨B, hB⟩ : ∃ B, B = 1000 + bg := ⟨_, rfl⟩
  rw [← hw0, ← hw1, ← hoff, ← hB]
  have g : ∀ {Z : Rs → Prop}, S_offs_between [.dat (lgD [1000, 1000] L (rs96 B (B + w0 + off) (B + w0 + an + off) (B + w0 + an + w1))), .dat (.int ((0 : Nat) : Int)), .dat (.int ((1 : Nat) : Int))] Z ↔ S_offs_between [.dat (.tuple [.tuple [.int 1000, .int 1000], .int L, .tuple [.tuple [.int 0, .int B, .str "send", .str "there"], .tuple [.int 1, .int (B + w0 + off), .str "take", .str "there"], .tuple [.int 1, .int (B + w0 + an + off), .str "send", .str "back"], .tuple [.int 0, .int (B + w0 + an + w1), .str "take", .str "back"]]]), .dat (.int 0), .dat (.int 1)] Z := Iff.rfl
  refine g.mp (m_offs_between ok96 (by decide) (by decide) (no96 (n0 := 0) (n1 := L - w1 + off) (by omega) (by omega) (by omega) (by omega) (by omega) (by omega) (by omega) (by omega)) fun _ f hf => ?_)
  obtain ⟨f1, f2, _, _⟩ := ff96 hf (by omega) (by omega) (by omega) (by omega) (by omega) (by omega)
  rw [f1, f2]
  walk_at "pu"
  refine feq2 (by omega) (by omega) ⟨(fun z => by cases z), fun _ => ?_⟩
  unfold q_law_4
  walk_at "pu"
  have g2 : ∀ {Z : Rs → Prop}, S_set_right [.dat (lgD [1000, 1000] L (rs96 B (B + w0 + off) (B + w0 + an + off) (B + w0 + an + w1))), .dat (.int ((0 : Nat) : Int))] Z ↔ S_set_right [.dat (.tuple [.tuple [.int 1000, .int 1000], .int L, .tuple [.tuple [.int 0, .int B, .str "send", .str "there"], .tuple [.int 1, .int (B + w0 + off), .str "take", .str "there"], .tuple [.int 1, .int (B + w0 + an + off), .str "send", .str "back"], .tuple [.int 0, .int (B + w0 + an + w1), .str "take", .str "back"]]]), .dat (.int 0)] Z := Iff.rfl
  refine g2.mp (m_set_right ok96 (by decide) (no96 (n0 := 0) (n1 := L - w1 + off) (by omega) (by omega) (by omega) (by omega) (by omega) (by omega) (by omega) (by omega)) fun _ f hf => ?_)
  obtain ⟨f1, f2, f3, f4⟩ := ff96 hf (by omega) (by omega) (by omega) (by omega) (by omega) (by omega)
  have e1 : srB f 0 ([1000, 1000] : List Int).length = [bndF f 0 0, bndF f 0 1] := rfl
  have e2 : bndF f 0 0 = 0 := by
    unfold bndF
    rw [f3]
    decide
  have e3 : bndF f 0 1 = (w0 + w1 - 2 * L + 1) / 2 := by
    unfold bndF
    rw [f1, f2]
    congr 1
    omega
  rw [e1, e2, e3]
  have e4 : (rs96 B (B + w0 + off) (B + w0 + an + off) (B + w0 + an + w1)).map (srR f 0) = rs96 (B - midF f 0 0) (B + w0 + off - midF f 0 1) (B + w0 + an + off - midF f 0 1) (B + w0 + an + w1 - midF f 0 0) := rfl
  rw [e4]
  unfold lgD
  rw [rsD96]
  walk_at "pu"
  rw [show intsOf [PyData.int w0, PyData.int w1] = some [w0, w1] from rfl]
  walk_at "pu"
  have es : ([w0, w1] : List Int).sum = w0 + w1 := by simp
  rw [es]
  refine ⟨cmul_l (by decide) (by decide), ⟨by decide, by decide⟩, feq2 rfl rfl ⟨(fun z => by cases z), fun _ => ?_⟩⟩
  have e5 : w0 = w1 → midF f 0 1 = off := fun hw => by
    unfold midF
    rw [f1, f2]
    omega
  unfold q_law_3
  walk_at "pu"
  refine (fun h => ⟨fun hw => ⟨fun z => absurd (by rw [e5 hw]; omega) z, fun _ => h⟩, fun _ => h⟩ : q_law_2 _ _ → _) ?_
  unfold q_law_2
  walk_at "pu"
  have g3 : ∀ {b0 b1 l : Int} {Z : Rs → Prop}, S_can_be_even [.dat (lgD [b0, b1] l (rs96 B (B + w0 + off) (B + w0 + an + off) (B + w0 + an + w1)))] Z ↔ S_can_be_even [.dat (.tuple [.tuple [.int b0, .int b1], .int l, .tuple [.tuple [.int 0, .int B, .str "send", .str "there"], .tuple [.int 1, .int (B + w0 + off), .str "take", .str "there"], .tuple [.int 1, .int (B + w0 + an + off), .str "send", .str "back"], .tuple [.int 0, .int (B + w0 + an + w1), .str "take", .str "back"]]])] Z := Iff.rfl
  refine g3.mp (m_can_be_even ok96 (fun hn => ?_) fun _ f hf => ?_)
  · walk_at "pu"
    refine feqB (Eq.symm (decide_eq_false fun hc => ?_)) ⟨(fun z => by cases z), fun _ => ?_⟩
    · refine no96 (n0 := 0) (n1 := if L - (B + w0 + an + w1) + (B + w0 + an + off) > -1 then L - (B + w0 + an + w1) + (B + w0 + an + off) else -1) ?_ ?_ ?_ ?_ ?_ ?_ ?_ ?_ hn
      all_goals (split at hc <;> split at hc <;> first | omega | (split <;> omega))
    · unfold q_law_1
      walk_at "pu"
      refine g3.mp (m_can_be_even ok96 (fun hn => ?_) fun _ f hf => ?_)
      · walk_at "pu"
        rfl
      · obtain ⟨k1, k2, k3⟩ := cyc96 hf
        exact absurd k1 (by omega)
  · walk_at "pu"
    obtain ⟨k1, k2, k3⟩ := cyc96 hf
    refine feqB (Eq.symm (decide_eq_true ?_)) ⟨(fun z => by cases z), fun _ => ?_⟩
    · split <;> split <;> omega
    · unfold q_law_1
      walk_at "pu"
      refine g3.mp (m_can_be_even ok96 (fun hn => ?_) fun _ f hf => ?_)
      · walk_at "pu"
        rfl
      · obtain ⟨k1, k2, k3⟩ := cyc96 hf
        exact absurd k1 (by omega)

end
structure Fc (G : Gx) : Prop where
  fr_any : Free G "any"
  fr_bool : Free G "bool"
  fr_dict : Free G "dict"
  fr_enumerate : Free G "enumerate"
  fr_int : Free G "int"
  fr_isinstance : Free G "isinstance"
  fr_len : Free G "len"
  fr_list : Free G "list"
  fr_max : Free G "max"
  fr_min : Free G "min"
  fr_range : Free G "range"
  fr_sorted : Free G "sorted"
  fr_sum : Free G "sum"
  fr_tuple : Free G "tuple"
theorem sc__law_draw : FnScope N__law_draw ["script", "town", "many"] (defScope st__law_draw) := ⟨rfl, rfl, rfl, by decide +kernel, rfl, by decide +kernel, by decide +kernel⟩
theorem j__law_draw {G : Gx} [sl : SL] {T : Addr} {Ts : List (Addr × Str)} {X : Cx} (F : Fc G)  (O : Ok [] G N__law_draw (defScope st__law_draw) 0 X) : JSsb (lt T sl.L Ts) 1 X (defBody st__law_draw) t__law_draw :=
  jssb_le (jssb_cons (jsb_tick O 1) (jssb_cons (jsb_if (jtb_0 (fun τ hτ => jt_cmp (op_eqD O.room.units) fEq_ok (jv_var O 0) (jv_e (je_lst (jds_nil))) rfl)) (jssb_one (jsb_ret (jeb_d (jdb_op op_mod (fInt_ok fun _ _ h => h) (jvb_d (jdb_op op_fdiv (fInt_ok fun _ _ h => h) (jvb_d (jdb_op op_mul (fInt_ok fun _ _ h => h) (jvb_d (jdb_op op_mulX fMulX_ok (jvb_d (jdb_cnt O 1)) (jvb_d (jdb_cnt O 1)))) (jvb_0 (fun τ hτ => jv_d (jd_int))))) (jvb_0 (fun τ hτ => jv_d (jd_int))))) (jvb_0 (fun τ hτ => jv_var O 2)))))) (jssb_0 (fun τ hτ => jss_nil))) (jssb_cons (jsb_set O 3 (jeb_d (jdb_op op_mod (fInt_ok fun _ _ h => h) (jvb_d (jdb_cnt O 1)) (jvb_0 (fun τ hτ => jv_e (je_blt O call_len fLen_ok F.fr_len (jvs_cons (jv_var O 0) (jvs_nil)) (by decide +kernel)))))) (hs := sw_BinOp)) (jssb_cons (jsb_set O 4 (jeb_d (jdb_rst O 1 (jvb_0 (fun τ hτ => jv_d (jd_add (jv_d (jd_int)) (jv_var O 3))))))) (jssb_cons (jsb_if (jtb_0 (fun τ hτ => jt_w (jw_and (jt_cmp (op_ge) fOrd_ok (jv_d (jd_ix (jv_var O 0) (jv_var O 3))) (jv_d (jd_pow (jv_d (jd_int)) (jv_d (jd_int)))) rfl) (jw_and1 (jt_cmp (op_gtU O) fGtU_ok (jv_var O 4) (jv_d (jd_int)) rfl))))) (jssb_cons (jsb_rst O 1 (jvb_0 (fun τ hτ => jv_d (jd_add (jv_d (jd_int)) (jv_var O 3)))) (jvb_0 (fun τ hτ => jv_d (jd_div (jv_var O 4) (jv_var O 2))))) (jssb_0 (fun τ hτ => jss_one (js_ret (je_d (jd_mod (jv_var O 4) (jv_var O 2))))))) (jssb_0 (fun τ hτ => jss_nil))) (jssb_cons (jsb_set O 5 (jeb_d (jdb_op op_mod (fInt_ok fun _ _ h => h) (jvb_d (jdb_op op_addU fAdd_ok (jvb_0 (fun τ hτ => jv_d (jd_ix (jv_var O 0) (jv_var O 3)))) (jvb_d (jdb_op op_mul (fInt_ok fun _ _ h => h) (jvb_0 (fun τ hτ => jv_d (jd_int))) (jvb_d (jdb_cnt O 1)))))) (jvb_0 (fun τ hτ => jv_d (jd_int))))) (hs := sw_BinOp)) (jssb_0 (fun τ hτ => jss_cons (js_set O 5 (je_d (jd_mod (jv_d (jd_pow (jv_var O 5) (jv_d (jd_int)))) (jv_d (jd_int)))) (hs := sw_BinOp)) (jss_one (js_ret (je_d (jd_mod (jv_d (jd_div (jv_d (jd_mod (jv_d (jd_add (jv_d (jd_mul (jv_d (jd_div (jv_var O 5) (jv_d (jd_int)))) (jv_d (jd_int)))) (jv_var O 5))) (jv_d (jd_int)))) (jv_d (jd_int)))) (jv_var O 2))))))))))))) (by decide +kernel)
theorem sc_ends_of : FnScope N_ends_of ["rows", "kind"] (defScope st_ends_of) := ⟨rfl, rfl, rfl, by decide +kernel, rfl, by decide +kernel, by decide +kernel⟩
theorem j_ends_of {G : Gx} {τ : Tn} {X : Cx} (F : Fc G)  (O : Ok [] G N_ends_of (defScope st_ends_of) 0 X) : JSs τ X (defBody st_ends_of) t_ends_of :=
  jss_cons (js_set O 2 (je_dic0)) (jss_cons (js_for O (ji_enum O F.fr_enumerate (jd_var O 0)) (jg_tup O (jgs_cons (jg_name O 3) (jgs_cons (jg_name O 4) (jgs_nil)))) (jss_one (js_if (jt_cmp (op_eqD O.room.units) fEq_ok (jv_d (jd_ix (jv_var O 4) (jv_d (jd_int)))) (jv_var O 1) rfl) (jss_one (js_setApp O 2 (jd_ix (jv_var O 4) (jv_d (jd_int))) (jd_var O 3))) (jss_nil)))) (jss_one (js_retL O 2)))
theorem sc_letters_of : FnScope N_letters_of ["rows"] (defScope st_letters_of) := ⟨rfl, rfl, rfl, by decide +kernel, rfl, by decide +kernel, by decide +kernel⟩
theorem j_letters_of {G : Gx} {τ : Tn} {X : Cx} (F : Fc G) (h_ends_of : FnD G τ 1 "ends_of" ["rows", "kind"] S_ends_of) (O : Ok [] G N_letters_of (defScope st_letters_of) 1 X) : JSs τ X (defBody st_letters_of) t_letters_of :=
  jss_cons (js_plr2 O 1 2 (je_call O h_ends_of (ja_cons (jv_var O 0) (ja_cons (jv_d (jd_str)) (ja_nil)))) (je_call O h_ends_of (ja_cons (jv_var O 0) (ja_cons (jv_d (jd_str)) (ja_nil))))) (jss_one (js_ret (je_lc [("letter", 3)] O (jix_seq (jv_e (je_skeys O 2 F.fr_sorted))) (fun _ O1 => jgc_name O1 3) (fun _ O1 => jts_nil) (fun _ O1 => jd_tup (jds_cons (jd_ix (jv_d (jd_dget O1 1 (jd_var O1 3))) (jv_d (jd_int))) (jds_cons (jd_ix (jv_d (jd_dget O1 2 (jd_var O1 3))) (jv_d (jd_int))) (jds_nil)))))))
theorem sc_even_ties : FnScope N_even_ties ["log"] (defScope st_even_ties) := ⟨rfl, rfl, rfl, by decide +kernel, rfl, by decide +kernel, by decide +kernel⟩
theorem j_even_ties {G : Gx} {τ : Tn} {X : Cx} (F : Fc G) (h_letters_of : FnD G τ 2 "letters_of" ["rows"] S_letters_of) (O : Ok [] G N_even_ties (defScope st_even_ties) 2 X) : JSs τ X (defBody st_even_ties) t_even_ties :=
  jss_cons (js_asg (jd_var O 0) (jg_tup O (jgs_cons (jg_name O 1) (jgs_cons (jg_name O 2) (jgs_cons (jg_name O 3) (jgs_nil)))))) (jss_cons (js_set O 4 (je_th0 false)) (jss_cons (js_for O (ji_enum O F.fr_enumerate (jd_var O 1)) (jg_tup O (jgs_cons (jg_name O 5) (jgs_cons (jg_name O 6) (jgs_nil)))) (jss_cons (js_oput O 4 (jd_tup (jds_cons (jd_non) (jds_cons (jd_var O 5) (jds_nil) se_Name) se_Constant)) (jd_neg (jv_var O 6))) (jss_cons (js_oput O 4 (jd_tup (jds_cons (jd_var O 5) (jds_cons (jd_non) (jds_nil) se_Constant) se_Name)) (jd_neg (jv_var O 6))) (jss_cons (js_setLc [("row", 12)] O 7 (jix_seq (jv_var O 3)) (fun _ O1 => jgc_name O1 12) (fun _ O1 => jts_one (jt_cmp (op_eqD O1.room.units) fEq_ok (jv_d (jd_ix (jv_var O1 12) (jv_d (jd_int)))) (jv_var O1 5) rfl)) (fun _ O1 => jd_ix (jv_var O1 12) (jv_d (jd_int)))) (jss_one (js_if (jt_cmp (op_neD O.room.units) fNe_ok (jv_var O 7) (jv_e (je_blt O (cr_sortD (units65 O.room)) fSortD_ok F.fr_sorted (jvs_cons (jv_var O 7) (jvs_nil)) (by decide +kernel))) rfl) (jss_one (js_ret (je_d (jd_non)))) (jss_nil))))))) (jss_cons (js_for O (ji_seq (jd_e (je_call O h_letters_of (ja_cons (jv_var O 3) (ja_nil))))) (jg_tup O (jgs_cons (jg_name O 8) (jgs_cons (jg_name O 9) (jgs_nil)))) (jss_cons (js_set O 10 (je_d (jd_tup (jds_cons (jd_ix (jv_d (jd_ix (jv_var O 3) (jv_var O 9))) (jv_d (jd_int))) (jds_cons (jd_ix (jv_d (jd_ix (jv_var O 3) (jv_var O 8))) (jv_d (jd_int))) (jds_nil)))))) (jss_cons (js_set O 11 (je_add (jv_d (jd_sub (jv_var O 2) (jv_d (jd_ix (jv_d (jd_ix (jv_var O 3) (jv_var O 9))) (jv_d (jd_int)))))) (jv_d (jd_ix (jv_d (jd_ix (jv_var O 3) (jv_var O 8))) (jv_d (jd_int))))) (hs := sw_BinOp)) (jss_one (js_oput O 4 (jd_var O 10) (jd_e (je_blt O (call_max2 O.calm) fI2_ok F.fr_max (jvs_cons (jv_d (jd_oget2 O 4 (jd_var O 10) (jd_var O 11))) (jvs_cons (jv_var O 11) (jvs_nil))) (by decide +kernel)))))))) (jss_one (js_retV O 4)))))
theorem sc_farthest : FnScope N_farthest ["ties", "nodes"] (defScope st_farthest) := ⟨rfl, rfl, rfl, by decide +kernel, rfl, by decide +kernel, by decide +kernel⟩
theorem j_farthest {G : Gx} {τ : Tn} {X : Cx} (F : Fc G)  (O : Ok [] G N_farthest (defScope st_farthest) 0 X) : JSs τ X (defBody st_farthest) t_farthest :=
  jss_cons (js_set O 2 (je_odict O 0 F.fr_dict)) (jss_cons (js_for O (ji_seq (jd_var O 1)) (jg_name O 3) (jss_one (js_oput O 2 (jd_tup (jds_cons (jd_var O 3) (jds_cons (jd_var O 3) (jds_nil) se_Name) se_Name)) (jd_e (je_blt O (call_max2 O.calm) fI2_ok F.fr_max (jvs_cons (jv_d (jd_int)) (jvs_cons (jv_d (jd_oget2 O 2 (jd_tup (jds_cons (jd_var O 3) (jds_cons (jd_var O 3) (jds_nil) se_Name) se_Name)) (jd_int))) (jvs_nil))) (by decide +kernel)))))) (jss_cons (js_for O (ji_seq (jd_var O 1)) (jg_name O 4) (jss_cons (js_for O (ji_seq (jd_var O 1)) (jg_name O 5) (jss_one (js_for O (ji_seq (jd_var O 1)) (jg_name O 6) (jss_one (js_if (jt_w (jw_and (jt_oin O 2 (jd_tup (jds_cons (jd_var O 5) (jds_cons (jd_var O 4) (jds_nil) se_Name) se_Name))) (jw_and1 (jt_oin O 2 (jd_tup (jds_cons (jd_var O 4) (jds_cons (jd_var O 6) (jds_nil) se_Name) se_Name)))))) (jss_cons (js_set O 7 (je_add (jv_d (jd_oget O 2 (jd_tup (jds_cons (jd_var O 5) (jds_cons (jd_var O 4) (jds_nil) se_Name) se_Name)))) (jv_d (jd_oget O 2 (jd_tup (jds_cons (jd_var O 4) (jds_cons (jd_var O 6) (jds_nil) se_Name) se_Name))))) (hs := sw_BinOp)) (jss_one (js_if (jt_cmp (op_gtU O) fGtU_ok (jv_var O 7) (jv_d (jd_oget2 O 2 (jd_tup (jds_cons (jd_var O 5) (jds_cons (jd_var O 6) (jds_nil) se_Name) se_Name)) (jd_sub (jv_var O 7) (jv_d (jd_int))))) rfl) (jss_one (js_oput O 2 (jd_tup (jds_cons (jd_var O 5) (jds_cons (jd_var O 6) (jds_nil) se_Name) se_Name)) (jd_var O 7))) (jss_nil)))) (jss_nil)))))) (jss_one (js_if (jt_tru (jv_e (je_blt O (cr_any O.calm) fAny_ok F.fr_any (jvs_cons (jv_e (je_lc [("node", 3)] O (jix_seq (jv_var O 1)) (fun _ O1 => jgc_name O1 3) (fun _ O1 => jts_nil) (fun _ O1 => jd_cmp (op_gtU O1) fGtU_ok (jv_d (jd_oget O1 2 (jd_tup (jds_cons (jd_var O1 3) (jds_cons (jd_var O1 3) (jds_nil) se_Name) se_Name)))) (jv_d (jd_int)) rfl))) (jvs_nil)) (by decide +kernel)))) (jss_one (js_ret (je_d (jd_non)))) (jss_nil))))) (jss_one (js_retV O 2))))
theorem sc_even_far : FnScope N_even_far ["log"] (defScope st_even_far) := ⟨rfl, rfl, rfl, by decide +kernel, rfl, by decide +kernel, by decide +kernel⟩
theorem j_even_far {G : Gx} {τ : Tn} {X : Cx} (F : Fc G) (h_even_ties : FnD G τ 3 "even_ties" ["log"] S_even_ties) (h_farthest : FnD G τ 1 "farthest" ["ties", "nodes"] S_farthest) (O : Ok [] G N_even_far (defScope st_even_far) 3 X) : JSs τ X (defBody st_even_far) t_even_far :=
  jss_cons (js_set O 1 (je_call O h_even_ties (ja_cons (jv_var O 0) (ja_nil)))) (jss_one (js_ret (je_if (jt_isN O 1) (je_d (jd_non)) (je_call O h_farthest (ja_th O 1 (ja_cons (jv_d (jd_add (jv_e (je_lst (jds_lit 40 (by kernel_rfl)))) (jv_e (je_lrg O F.fr_list F.fr_range (jv_e (je_blt O call_len fLen_ok F.fr_len (jvs_cons (jv_d (jd_ix (jv_var O 0) (jv_d (jd_int)))) (jvs_nil)) (by decide +kernel))))))) (ja_nil)))))))
theorem sc_can_be_even : FnScope N_can_be_even ["log"] (defScope st_can_be_even) := ⟨rfl, rfl, rfl, by decide +kernel, rfl, by decide +kernel, by decide +kernel⟩
theorem j_can_be_even {G : Gx} {τ : Tn} {X : Cx} (F : Fc G) (h_even_far : FnD G τ 4 "even_far" ["log"] S_even_far) (O : Ok [] G N_can_be_even (defScope st_can_be_even) 4 X) : JSs τ X (defBody st_can_be_even) t_can_be_even :=
  jss_one (js_ret (je_d (jd_eisnN (je_call O h_even_far (ja_cons (jv_var O 0) (ja_nil))))))
theorem sc_is_whole : FnScope N_is_whole ["thing", "least", "most"] (defScope st_is_whole) := ⟨rfl, rfl, rfl, by decide +kernel, rfl, by decide +kernel, by decide +kernel⟩
theorem j_is_whole {G : Gx} {τ : Tn} {X : Cx} (F : Fc G)  (O : Ok [] G N_is_whole (defScope st_is_whole) 0 X) : JSs τ X (defBody st_is_whole) t_is_whole :=
  jss_cons (js_if (jt_w (jw_or (jt_not (jt_tru (jv_d (jd_isi O F.fr_isinstance F.fr_int (jv_var O 0) (by decide +kernel))))) (jw_or1 (jt_tru (jv_d (jd_isi O F.fr_isinstance F.fr_bool (jv_var O 0) (by decide +kernel))))))) (jss_one (js_ret (je_d (jd_bl)))) (jss_nil)) (jss_one (js_ret (je_d (jd_and (jv_d (jd_or (jv_d (jd_cmp (op_isU) fIs_ok (jv_var O 1) (jv_d (jd_non)) rfl)) (jd_one (jd_cmp (op_ge) fOrd_ok (jv_var O 0) (jv_var O 1) rfl)))) (jd_one (jd_or (jv_d (jd_cmp (op_isU) fIs_ok (jv_var O 2) (jv_d (jd_non)) rfl)) (jd_one (jd_cmp (op_le) fOrd_ok (jv_var O 0) (jv_var O 2) rfl))))))))
theorem sc_look_writer : FnScope N_look_writer ["log", "number"] (defScope st_look_writer) := ⟨rfl, rfl, rfl, by decide +kernel, rfl, by decide +kernel, by decide +kernel⟩
theorem j_look_writer {G : Gx} {τ : Tn} {X : Cx} (F : Fc G) (h_is_whole_least_most : FnK G τ 1 "is_whole" ["thing", "least", "most"] S_is_whole 1 ["least", "most"] g_is_whole_least_most) (O : Ok [] G N_look_writer (defScope st_look_writer) 1 X) : JSs τ X (defBody st_look_writer) t_look_writer :=
  jss_one (js_if (jt_not (jt_tru (jv_e (je_callK O h_is_whole_least_most (ja_cons (jv_var O 1) (ja_nil)) (jk_cons (jv_d (jd_int)) (jk_cons (jv_d (jd_sub (jv_e (je_blt O call_len fLen_ok F.fr_len (jvs_cons (jv_d (jd_ix (jv_var O 0) (jv_d (jd_int)))) (jvs_nil)) (by decide +kernel))) (jv_d (jd_int)))) (jk_nil))))))) (jss_never) (jss_nil))
theorem sc_offs_held : FnScope N_offs_held ["log"] (defScope st_offs_held) := ⟨rfl, rfl, rfl, by decide +kernel, rfl, by decide +kernel, by decide +kernel⟩
theorem j_offs_held {G : Gx} {τ : Tn} {X : Cx} (F : Fc G) (h_even_far : FnD G τ 4 "even_far" ["log"] S_even_far) (O : Ok [] G N_offs_held (defScope st_offs_held) 4 X) : JSs τ X (defBody st_offs_held) t_offs_held :=
  jss_cons (js_set O 1 (je_call O h_even_far (ja_cons (jv_var O 0) (ja_nil)))) (jss_cons (js_if (jt_isN O 1) (jss_never) (jss_nil)) (jss_one (js_retV O 1)))
theorem sc_offs_between : FnScope N_offs_between ["log", "one", "other"] (defScope st_offs_between) := ⟨rfl, rfl, rfl, by decide +kernel, rfl, by decide +kernel, by decide +kernel⟩
theorem j_offs_between {G : Gx} {τ : Tn} {X : Cx} (F : Fc G) (h_look_writer : FnD G τ 2 "look_writer" ["log", "number"] S_look_writer) (h_offs_held : FnD G τ 5 "offs_held" ["log"] S_offs_held) (O : Ok [] G N_offs_between (defScope st_offs_between) 5 X) : JSs τ X (defBody st_offs_between) t_offs_between :=
  jss_cons (js_expr (je_call O h_look_writer (ja_cons (jv_var O 0) (ja_cons (jv_var O 1) (ja_nil))))) (jss_cons (js_expr (je_call O h_look_writer (ja_cons (jv_var O 0) (ja_cons (jv_var O 2) (ja_nil))))) (jss_cons (js_set O 3 (je_call O h_offs_held (ja_cons (jv_var O 0) (ja_nil)))) (jss_one (js_ret (je_d (jd_tup (jds_cons (jd_oget O 3 (jd_tup (jds_cons (jd_var O 1) (jds_cons (jd_var O 2) (jds_nil) se_Name) se_Name))) (jds_cons (jd_neg (jv_d (jd_oget O 3 (jd_tup (jds_cons (jd_var O 2) (jds_cons (jd_var O 1) (jds_nil) se_Name) se_Name))))) (jds_nil) se_UnaryOp))))))))
theorem sc_set_right : FnScope N_set_right ["log", "one"] (defScope st_set_right) := ⟨rfl, rfl, rfl, by decide +kernel, rfl, by decide +kernel, by decide +kernel⟩
theorem j_set_right {G : Gx} {τ : Tn} {X : Cx} (F : Fc G) (h_look_writer : FnD G τ 2 "look_writer" ["log", "number"] S_look_writer) (h_offs_held : FnD G τ 5 "offs_held" ["log"] S_offs_held) (O : Ok [] G N_set_right (defScope st_set_right) 5 X) : JSs τ X (defBody st_set_right) t_set_right :=
  jss_cons (js_expr (je_call O h_look_writer (ja_cons (jv_var O 0) (ja_cons (jv_var O 1) (ja_nil))))) (jss_cons (js_set O 2 (je_call O h_offs_held (ja_cons (jv_var O 0) (ja_nil)))) (jss_cons (js_setLc [("writer", 7)] O 3 (jix_of (ji_range1 O F.fr_range (jv_e (je_blt O call_len fLen_ok F.fr_len (jvs_cons (jv_d (jd_ix (jv_var O 0) (jv_d (jd_int)))) (jvs_nil)) (by decide +kernel))))) (fun _ O1 => jgc_name O1 7) (fun _ O1 => jts_nil) (fun _ O1 => jd_tup (jds_cons (jd_oget O1 2 (jd_tup (jds_cons (jd_var O1 1) (jds_cons (jd_var O1 7) (jds_nil) se_Name) se_Name))) (jds_cons (jd_neg (jv_d (jd_oget O1 2 (jd_tup (jds_cons (jd_var O1 7) (jds_cons (jd_var O1 1) (jds_nil) se_Name) se_Name))))) (jds_nil) se_UnaryOp)))) (jss_cons (js_setCe O 4 (je_lc [("low", 8), ("high", 9)] O (jix_seq (jv_var O 3)) (fun _ O1 => jgc_tup O1 (jgcs_cons (jgc_name O1 8) (jgcs_cons (jgc_name O1 9) (jgcs_nil)))) (fun _ O1 => jts_nil) (fun _ O1 => jd_div (jv_d (jd_add (jv_var O1 8) (jv_var O1 9))) (jv_d (jd_int))))) (jss_cons (js_set O 5 (je_bty O call_tupP fTuple_ok F.fr_tuple (jvs_cons (jv_e (je_lc [("low", 8), ("high", 9)] O (jix_seq (jv_var O 3)) (fun _ O1 => jgc_tup O1 (jgcs_cons (jgc_name O1 8) (jgcs_cons (jgc_name O1 9) (jgcs_nil)))) (fun _ O1 => jts_nil) (fun _ O1 => jd_div (jv_d (jd_add (jv_d (jd_sub (jv_var O1 9) (jv_var O1 8))) (jv_d (jd_int)))) (jv_d (jd_int))))) (jvs_nil)) (by decide +kernel))) (jss_cons (js_setLc [("writer", 7), ("shown", 10), ("kind", 11), ("letter", 12)] O 6 (jix_seq (jv_d (jd_ix (jv_var O 0) (jv_d (jd_int))))) (fun _ O1 => jgc_tup O1 (jgcs_cons (jgc_name O1 7) (jgcs_cons (jgc_name O1 10) (jgcs_cons (jgc_name O1 11) (jgcs_cons (jgc_name O1 12) (jgcs_nil)))))) (fun _ O1 => jts_nil) (fun _ O1 => jd_tup (jds_cons (jd_var O1 7) (jds_cons (jd_sub (jv_var O1 10) (jv_d (jd_ix (jv_var O1 4) (jv_var O1 7)))) (jds_cons (jd_var O1 11) (jds_cons (jd_var O1 12) (jds_nil) se_Name) se_Name) se_BinOp) se_Name))) (jss_one (js_ret (je_d (jd_tup (jds_cons (jd_var O 5) (jds_cons (jd_ix (jv_var O 0) (jv_d (jd_int))) (jds_cons (jd_e (je_bty O call_tupP fTuple_ok F.fr_tuple (jvs_cons (jv_var O 6) (jvs_nil)) (by decide +kernel))) (jds_nil))) se_Name))))))))))
theorem sc_law : FnScope N_law ["script"] (defScope st_law) := ⟨rfl, rfl, rfl, by decide +kernel, rfl, by decide +kernel, by decide +kernel⟩
theorem j_law {G : Gx} [sl : SL] {T : Addr} {Ts : List (Addr × Str)} {X : Cx} (F : Fc G) (h__law_draw : FnB G (lt T sl.L Ts) 1 1 "_law_draw" ["script", "town", "many"] S__law_draw) (h_can_be_even : FnA G 5 "can_be_even" ["log"] S_can_be_even) (h_offs_between : FnA G 6 "offs_between" ["log", "one", "other"] S_offs_between) (h_set_right : FnA G 6 "set_right" ["log", "one"] S_set_right) (O : Ok [] G N_law (defScope st_law) 6 X) : JSsb (lt T sl.L Ts) 16777220 X ((defBody st_law).tail) t_law :=
  jssb_le (jssb_cons (jsb_set O 2 (jeb_call O h__law_draw (jab_cons (jvb_0 (fun τ hτ => jv_var O 0)) (jab_town O 1 (jab_cons (jvb_0 (fun τ hτ => jv_d (jd_int))) (jab_nil)))))) (jssb_cons (jsb_setLc [("k", 17)] O 3 (jixb_0 (fun τ hτ => jix_of (ji_range1 O F.fr_range (jv_d (jd_int))))) (fun _ Q1 τ hτ => jgc_name Q1 17) (fun _ Q1 τ hτ => jts_nil) (fun _ Q1 => jdb_op op_addU fAdd_ok (jvb_0 (fun τ hτ => jv_var Q1 2)) (jvb_e (jeb_call Q1 h__law_draw (jab_cons (jvb_0 (fun τ hτ => jv_var Q1 0)) (jab_town Q1 1 (jab_cons (jvb_0 (fun τ hτ => jv_d (jd_int))) (jab_nil)))))))) (jssb_cons (jsb_set O 4 (jeb_d (jdb_op op_sub fSub_ok (jvb_e (jeb_call O h__law_draw (jab_cons (jvb_0 (fun τ hτ => jv_var O 0)) (jab_town O 1 (jab_cons (jvb_0 (fun τ hτ => jv_d (jd_int))) (jab_nil)))))) (jvb_0 (fun τ hτ => jv_d (jd_int))))) (hs := sw_BinOp)) (jssb_cons (jsb_set O 5 (jeb_d (jdb_op op_addU fAdd_ok (jvb_0 (fun τ hτ => jv_d (jd_int))) (jvb_e (jeb_call O h__law_draw (jab_cons (jvb_0 (fun τ hτ => jv_var O 0)) (jab_town O 1 (jab_cons (jvb_0 (fun τ hτ => jv_d (jd_int))) (jab_nil)))))))) (hs := sw_BinOp)) (jssb_cons (jsb_0 (fun τ hτ => js_set O 6 (je_add (jv_var O 5) (jv_d (jd_ix (jv_var O 3) (jv_d (jd_int))))) (hs := sw_BinOp))) (jssb_cons (jsb_set O 7 (jeb_d (jdb_op op_addU fAdd_ok (jvb_0 (fun τ hτ => jv_var O 6)) (jvb_e (jeb_call O h__law_draw (jab_cons (jvb_0 (fun τ hτ => jv_var O 0)) (jab_town O 1 (jab_cons (jvb_0 (fun τ hτ => jv_d (jd_int))) (jab_nil)))))))) (hs := sw_BinOp)) (jssb_0 (fun τ hτ => jss_cons (js_set O 8 (je_add (jv_var O 7) (jv_d (jd_ix (jv_var O 3) (jv_d (jd_int))))) (hs := sw_BinOp)) (jss_cons (js_set O 9 (je_lst (jds_cons (jd_tup (jds_cons (jd_int) (jds_cons (jd_var O 5) (jds_cons (jd_str) (jds_cons (jd_str) (jds_nil) se_Constant) se_Constant) se_Name) se_Constant)) (jds_cons (jd_tup (jds_cons (jd_int) (jds_cons (jd_add (jv_var O 6) (jv_var O 4)) (jds_cons (jd_str) (jds_cons (jd_str) (jds_nil) se_Constant) se_Constant) se_BinOp) se_Constant)) (jds_cons (jd_tup (jds_cons (jd_int) (jds_cons (jd_add (jv_var O 7) (jv_var O 4)) (jds_cons (jd_str) (jds_cons (jd_str) (jds_nil) se_Constant) se_Constant) se_BinOp) se_Constant)) (jds_nil) se_Tuple) se_Tuple) se_Tuple)) (hs := sw_List)) (jss_cons (js_set O 10 (je_d (jd_tup (jds_cons (jd_lit 40 (by kernel_rfl)) (jds_cons (jd_var O 2) (jds_cons (jd_e (je_bty O call_tupP fTuple_ok F.fr_tuple (jvs_cons (jv_d (jd_add (jv_var O 9) (jv_e (je_lst (jds_cons (jd_tup (jds_cons (jd_int) (jds_cons (jd_var O 8) (jds_cons (jd_str) (jds_cons (jd_str) (jds_nil) se_Constant) se_Constant) se_Name) se_Constant)) (jds_nil) se_Tuple))))) (jvs_nil)) (by decide +kernel))) (jds_nil)) se_Name) se_Tuple)))) (jss_cons (js_asg (jd_e (je_call O (h_offs_between.d τ hτ) (ja_cons (jv_var O 10) (ja_cons (jv_d (jd_int)) (ja_cons (jv_d (jd_int)) (ja_nil)))))) (jg_tup O (jgs_cons (jg_name O 11) (jgs_cons (jg_name O 12) (jgs_nil))))) (jss_cons (js_if (jt_cmp (op_neD O.room.units) fNe_ok (jv_d (jd_tup (jds_cons (jd_var O 11) (jds_cons (jd_var O 12) (jds_nil) se_Name) se_Name))) (jv_d (jd_tup (jds_cons (jd_add (jv_d (jd_sub (jv_var O 4) (jv_d (jd_ix (jv_var O 3) (jv_d (jd_int)))))) (jv_var O 2)) (jds_cons (jd_sub (jv_d (jd_add (jv_var O 4) (jv_d (jd_ix (jv_var O 3) (jv_d (jd_int)))))) (jv_var O 2)) (jds_nil) se_BinOp) se_BinOp))) rfl) (jss_one (js_ret (je_d (jd_bl)))) (jss_nil)) (jss_cons (js_set O 13 (je_call O (h_set_right.d τ hτ) (ja_cons (jv_var O 10) (ja_cons (jv_d (jd_int)) (ja_nil))))) (jss_cons (js_set O 14 (je_d (jd_sub (jv_e (je_blt O ((cr_sum O.calm).or (cr_sumT O.calm)) fSum_ok F.fr_sum (jvs_cons (jv_var O 3) (jvs_nil)) (by decide +kernel))) (jv_d (jd_mul (jv_d (jd_int)) (jv_var O 2))))) (hs := sw_BinOp)) (jss_cons (js_if (jt_cmp (op_neD O.room.units) fNe_ok (jv_d (jd_ix (jv_var O 13) (jv_d (jd_int)))) (jv_d (jd_tup (jds_cons (jd_int) (jds_cons (jd_div (jv_d (jd_add (jv_var O 14) (jv_d (jd_int)))) (jv_d (jd_int))) (jds_nil) se_BinOp) se_Constant))) rfl) (jss_one (js_ret (je_d (jd_bl)))) (jss_nil)) (jss_cons (js_if (jt_w (jw_and (jt_cmp (op_eqD O.room.units) fEq_ok (jv_d (jd_ix (jv_var O 3) (jv_d (jd_int)))) (jv_d (jd_ix (jv_var O 3) (jv_d (jd_int)))) rfl) (jw_and1 (jt_cmp (op_neD O.room.units) fNe_ok (jv_d (jd_ix (jv_d (jd_ix (jv_d (jd_ix (jv_var O 13) (jv_d (jd_int)))) (jv_d (jd_int)))) (jv_d (jd_int)))) (jv_var O 6) rfl)))) (jss_one (js_ret (je_d (jd_bl)))) (jss_nil)) (jss_cons (js_set O 15 (je_d (jd_tup (jds_cons (jd_lit 40 (by kernel_rfl)) (jds_cons (jd_var O 2) (jds_cons (jd_ix (jv_var O 10) (jv_d (jd_int))) (jds_nil)) se_Name) se_Tuple)))) (jss_cons (js_set O 16 (je_d (jd_tup (jds_cons (jd_e (je_blt O (call_max2 O.calm) fI2_ok F.fr_max (jvs_cons (jv_d (jd_neg (jv_d (jd_int)))) (jvs_cons (jv_var O 11) (jvs_nil))) (by decide +kernel))) (jds_cons (jd_e (je_blt O (call_min2 O.calm) fI2_ok F.fr_min (jvs_cons (jv_d (jd_int)) (jvs_cons (jv_var O 12) (jvs_nil))) (by decide +kernel))) (jds_nil)))))) (jss_cons (js_if (jt_cmp (op_neD O.room.units) fNe_ok (jv_d (jd_cmp (op_isU) fIs_ok (jv_e (je_call O (h_can_be_even.d τ hτ) (ja_cons (jv_var O 15) (ja_nil)))) (jv_d (jd_bl)) rfl)) (jv_d (jd_cmp (op_le) fOrd_ok (jv_d (jd_ix (jv_var O 16) (jv_d (jd_int)))) (jv_d (jd_ix (jv_var O 16) (jv_d (jd_int)))) rfl)) rfl) (jss_one (js_ret (je_d (jd_bl)))) (jss_nil)) (jss_one (js_ret (je_d (jd_cmp (op_isU) fIs_ok (jv_e (je_call O (h_can_be_even.d τ hτ) (ja_cons (jv_d (jd_tup (jds_cons (jd_lit 40 (by kernel_rfl)) (jds_cons (jd_add (jv_d (jd_sub (jv_var O 8) (jv_var O 5))) (jv_d (jd_int))) (jds_cons (jd_ix (jv_var O 10) (jv_d (jd_int))) (jds_nil)) se_BinOp) se_Tuple))) (ja_nil)))) (jv_d (jd_bl)) rfl))))))))))))))))))))))) (by decide +kernel)
theorem sc__law_town : FnScope N__law_town ["script"] (defScope st__law_town) := ⟨rfl, rfl, rfl, by decide +kernel, rfl, by decide +kernel, by decide +kernel⟩
theorem j__law_town {G : Gx} {τ : Tn} {X : Cx} (F : Fc G)  (O : Ok [] G N__law_town (defScope st__law_town) 0 X) : JSs τ X (defBody st__law_town) t__law_town :=
  jss_one (js_ret (je_add (jv_e (je_lst (jds_lit 40 (by kernel_rfl)))) (jv_e (je_bty O call_list_of fList_ok F.fr_list (jvs_cons (jv_var O 0) (jvs_nil)) (by decide +kernel)))))
theorem law_math : ∀ ns : List Int, ns.length ≤ 63 → t_law (sl := ⟨ns.length⟩) edLaw (enLaw N_law 1 ns) := fun ns hl => law_m (sl := ⟨ns.length⟩) ns hl rfl
theorem town_math : ∀ ns : List Int, ns.length ≤ 63 → eCall S__law_town (aCons (vVar 0) aNil) (en0 N_law [.dat (scrD ns)]) fun r => r = .lst (.int 0 :: ns.map PyData.int) := fun ns hl => town_m (sl := ⟨0⟩) ns hl
theorem facts {P : Program} {w : World} {K : PySem.W.Frag} {h : Heap} {mg : Str → Option Value} {f : Addr} (X : K.In h) (G0 : h.Ns mainGlobals mg) (hfa : mg ("law" : Str) = some (.ref f)) (c : SaysP fa fn cs K) :
    ∃ fd : FuncData, (∀ (s : Shared) (v : Value), BindsTo s fd ⟨[v], []⟩ [("script", v)]) ∧ ∀ base : Heap, K.In base → base.Ns mainGlobals mg → FnOk P w K mg base CX0 7 f fd ["script"] (spLaw K ([])) := by
  obtain ⟨fd__law_draw, F__law_draw⟩ := c.def_ 0 (d := dd__law_draw) rfl
  obtain ⟨fd_ends_of, F_ends_of⟩ := c.def_ 1 (d := dd_ends_of) rfl
  obtain ⟨fd_letters_of, F_letters_of⟩ := c.def_ 2 (d := dd_letters_of) rfl
  obtain ⟨fd_even_ties, F_even_ties⟩ := c.def_ 3 (d := dd_even_ties) rfl
  obtain ⟨fd_farthest, F_farthest⟩ := c.def_ 4 (d := dd_farthest) rfl
  obtain ⟨fd_even_far, F_even_far⟩ := c.def_ 5 (d := dd_even_far) rfl
  obtain ⟨fd_can_be_even, F_can_be_even⟩ := c.def_ 6 (d := dd_can_be_even) rfl
  obtain ⟨fd_is_whole, F_is_whole⟩ := c.def_ 7 (d := dd_is_whole) rfl
  obtain ⟨fd_look_writer, F_look_writer⟩ := c.def_ 8 (d := dd_look_writer) rfl
  obtain ⟨fd_offs_held, F_offs_held⟩ := c.def_ 9 (d := dd_offs_held) rfl
  obtain ⟨fd_offs_between, F_offs_between⟩ := c.def_ 10 (d := dd_offs_between) rfl
  obtain ⟨fd_set_right, F_set_right⟩ := c.def_ 11 (d := dd_set_right) rfl
  obtain ⟨fd_law, F_law⟩ := c.def_ 12 (d := dd_law) rfl
  obtain ⟨fd__law_town, F__law_town⟩ := c.def_ 13 (d := dd__law_town) rfl
  have e := hfa.symm.trans (He.glo_ok X G0 (c.fact 12 (f := .glo "law") rfl))
  cases e
  have b := FunD.bindsA (ps := ["script"]) F_law fun _ _ _ _ _ _ us hl => match us, hl with | [_], _ => rfl
  refine ⟨fd_law, fun s v => b s [v] rfl, fun base hK hN => ?_⟩
  let G : Gx := ⟨P, w, K, mg, base⟩
  have F : Fc G := ⟨He.free_ok X G0 (c.fact 14 (f := .free "any") rfl), He.free_ok X G0 (c.fact 15 (f := .free "bool") rfl), He.free_ok X G0 (c.fact 16 (f := .free "dict") rfl), He.free_ok X G0 (c.fact 17 (f := .free "enumerate") rfl), He.free_ok X G0 (c.fact 18 (f := .free "int") rfl), He.free_ok X G0 (c.fact 19 (f := .free "isinstance") rfl), He.free_ok X G0 (c.fact 20 (f := .free "len") rfl), He.free_ok X G0 (c.fact 21 (f := .free "list") rfl), He.free_ok X G0 (c.fact 22 (f := .free "max") rfl), He.free_ok X G0 (c.fact 23 (f := .free "min") rfl), He.free_ok X G0 (c.fact 24 (f := .free "range") rfl), He.free_ok X G0 (c.fact 25 (f := .free "sorted") rfl), He.free_ok X G0 (c.fact 26 (f := .free "sum") rfl), He.free_ok X G0 (c.fact 27 (f := .free "tuple") rfl)⟩
  have D__law_draw : Dn G "_law_draw" st__law_draw [] [] _ fd__law_draw := ⟨F__law_draw, He.glo_ok X G0 (c.fact 0 (f := .glo "_law_draw") rfl)⟩
  have D_ends_of : Dn G "ends_of" st_ends_of [] [] _ fd_ends_of := ⟨F_ends_of, He.glo_ok X G0 (c.fact 1 (f := .glo "ends_of") rfl)⟩
  have D_letters_of : Dn G "letters_of" st_letters_of [] [] _ fd_letters_of := ⟨F_letters_of, He.glo_ok X G0 (c.fact 2 (f := .glo "letters_of") rfl)⟩
  have D_even_ties : Dn G "even_ties" st_even_ties [] [] _ fd_even_ties := ⟨F_even_ties, He.glo_ok X G0 (c.fact 3 (f := .glo "even_ties") rfl)⟩
  have D_farthest : Dn G "farthest" st_farthest [] [] _ fd_farthest := ⟨F_farthest, He.glo_ok X G0 (c.fact 4 (f := .glo "farthest") rfl)⟩
  have D_even_far : Dn G "even_far" st_even_far [] [] _ fd_even_far := ⟨F_even_far, He.glo_ok X G0 (c.fact 5 (f := .glo "even_far") rfl)⟩
  have D_can_be_even : Dn G "can_be_even" st_can_be_even [] [] _ fd_can_be_even := ⟨F_can_be_even, He.glo_ok X G0 (c.fact 6 (f := .glo "can_be_even") rfl)⟩
  have D_is_whole : Dn G "is_whole" st_is_whole [] [("least", .non), ("most", .non)] _ fd_is_whole := ⟨F_is_whole, He.glo_ok X G0 (c.fact 7 (f := .glo "is_whole") rfl)⟩
  have D_look_writer : Dn G "look_writer" st_look_writer [] [] _ fd_look_writer := ⟨F_look_writer, He.glo_ok X G0 (c.fact 8 (f := .glo "look_writer") rfl)⟩
  have D_offs_held : Dn G "offs_held" st_offs_held [] [] _ fd_offs_held := ⟨F_offs_held, He.glo_ok X G0 (c.fact 9 (f := .glo "offs_held") rfl)⟩
  have D_offs_between : Dn G "offs_between" st_offs_between [] [] _ fd_offs_between := ⟨F_offs_between, He.glo_ok X G0 (c.fact 10 (f := .glo "offs_between") rfl)⟩
  have D_set_right : Dn G "set_right" st_set_right [] [] _ fd_set_right := ⟨F_set_right, He.glo_ok X G0 (c.fact 11 (f := .glo "set_right") rfl)⟩
  have D__law_town : Dn G "_law_town" st__law_town [] [] _ fd__law_town := ⟨F__law_town, He.glo_ok X G0 (c.fact 13 (f := .glo "_law_town") rfl)⟩
  have H__law_draw : ∀ (L : Nat) (T : Addr), FnB G (lt T L ([])) 1 1 "_law_draw" ["script", "town", "many"] (S__law_draw (sl := ⟨L⟩)) := fun L T => by
    unfold S__law_draw
    exact fnB_of D__law_draw sc__law_draw (fun _ _ _ _ _ _ us hl => match us, hl with | [_, _, _], _ => rfl) (fun X O => j__law_draw (sl := ⟨L⟩) F O)
  have H_ends_of : ∀ τ : Tn, τ.free → FnD G τ 1 "ends_of" ["rows", "kind"] S_ends_of := fun τ hτ => by
    unfold S_ends_of
    exact fnD_of hτ D_ends_of sc_ends_of (fun _ _ _ _ _ _ us hl => match us, hl with | [_, _], _ => rfl) (fun X O => j_ends_of F O)
  have A_ends_of : FnA G 1 "ends_of" ["rows", "kind"] S_ends_of := ⟨⟨_, fd_ends_of, fun τ hτ => (by
    unfold S_ends_of
    exact fnOk_of hτ (G := G) D_ends_of.fn sc_ends_of (fun X O => j_ends_of F O)), D_ends_of.gl, D_ends_of.fn.kp, D_ends_of.fn.bindsN (fun _ _ _ _ _ _ us hl => match us, hl with | [_, _], _ => rfl)⟩⟩
  have H_letters_of : ∀ τ : Tn, τ.free → FnD G τ 2 "letters_of" ["rows"] S_letters_of := fun τ hτ => by
    unfold S_letters_of
    exact fnD_of hτ D_letters_of sc_letters_of (fun _ _ _ _ _ _ us hl => match us, hl with | [_], _ => rfl) (fun X O => j_letters_of F ((H_ends_of τ hτ)) O)
  have A_letters_of : FnA G 2 "letters_of" ["rows"] S_letters_of := ⟨⟨_, fd_letters_of, fun τ hτ => (by
    unfold S_letters_of
    exact fnOk_of hτ (G := G) D_letters_of.fn sc_letters_of (fun X O => j_letters_of F ((H_ends_of τ hτ)) O)), D_letters_of.gl, D_letters_of.fn.kp, D_letters_of.fn.bindsN (fun _ _ _ _ _ _ us hl => match us, hl with | [_], _ => rfl)⟩⟩
  have H_even_ties : ∀ τ : Tn, τ.free → FnD G τ 3 "even_ties" ["log"] S_even_ties := fun τ hτ => by
    unfold S_even_ties
    exact fnD_of hτ D_even_ties sc_even_ties (fun _ _ _ _ _ _ us hl => match us, hl with | [_], _ => rfl) (fun X O => j_even_ties F ((H_letters_of τ hτ)) O)
  have A_even_ties : FnA G 3 "even_ties" ["log"] S_even_ties := ⟨⟨_, fd_even_ties, fun τ hτ => (by
    unfold S_even_ties
    exact fnOk_of hτ (G := G) D_even_ties.fn sc_even_ties (fun X O => j_even_ties F ((H_letters_of τ hτ)) O)), D_even_ties.gl, D_even_ties.fn.kp, D_even_ties.fn.bindsN (fun _ _ _ _ _ _ us hl => match us, hl with | [_], _ => rfl)⟩⟩
  have H_farthest : ∀ τ : Tn, τ.free → FnD G τ 1 "farthest" ["ties", "nodes"] S_farthest := fun τ hτ => by
    unfold S_farthest
    exact fnD_of hτ D_farthest sc_farthest (fun _ _ _ _ _ _ us hl => match us, hl with | [_, _], _ => rfl) (fun X O => j_farthest F O)
  have A_farthest : FnA G 1 "farthest" ["ties", "nodes"] S_farthest := ⟨⟨_, fd_farthest, fun τ hτ => (by
    unfold S_farthest
    exact fnOk_of hτ (G := G) D_farthest.fn sc_farthest (fun X O => j_farthest F O)), D_farthest.gl, D_farthest.fn.kp, D_farthest.fn.bindsN (fun _ _ _ _ _ _ us hl => match us, hl with | [_, _], _ => rfl)⟩⟩
  have H_even_far : ∀ τ : Tn, τ.free → FnD G τ 4 "even_far" ["log"] S_even_far := fun τ hτ => by
    unfold S_even_far
    exact fnD_of hτ D_even_far sc_even_far (fun _ _ _ _ _ _ us hl => match us, hl with | [_], _ => rfl) (fun X O => j_even_far F ((H_even_ties τ hτ)) ((H_farthest τ hτ)) O)
  have A_even_far : FnA G 4 "even_far" ["log"] S_even_far := ⟨⟨_, fd_even_far, fun τ hτ => (by
    unfold S_even_far
    exact fnOk_of hτ (G := G) D_even_far.fn sc_even_far (fun X O => j_even_far F ((H_even_ties τ hτ)) ((H_farthest τ hτ)) O)), D_even_far.gl, D_even_far.fn.kp, D_even_far.fn.bindsN (fun _ _ _ _ _ _ us hl => match us, hl with | [_], _ => rfl)⟩⟩
  have H_can_be_even : ∀ τ : Tn, τ.free → FnD G τ 5 "can_be_even" ["log"] S_can_be_even := fun τ hτ => by
    unfold S_can_be_even
    exact fnD_of hτ D_can_be_even sc_can_be_even (fun _ _ _ _ _ _ us hl => match us, hl with | [_], _ => rfl) (fun X O => j_can_be_even F ((H_even_far τ hτ)) O)
  have A_can_be_even : FnA G 5 "can_be_even" ["log"] S_can_be_even := ⟨⟨_, fd_can_be_even, fun τ hτ => (by
    unfold S_can_be_even
    exact fnOk_of hτ (G := G) D_can_be_even.fn sc_can_be_even (fun X O => j_can_be_even F ((H_even_far τ hτ)) O)), D_can_be_even.gl, D_can_be_even.fn.kp, D_can_be_even.fn.bindsN (fun _ _ _ _ _ _ us hl => match us, hl with | [_], _ => rfl)⟩⟩
  have K_is_whole : ∀ τ : Tn, τ.free → FnOk P w K mg base CX0 1 _ fd_is_whole ["thing", "least", "most"] (spD G τ S_is_whole) := fun τ hτ => by
    unfold S_is_whole
    exact fnOk_of hτ (G := G) D_is_whole.fn sc_is_whole (fun X O => j_is_whole F O)
  have H_is_whole_least_most : ∀ τ : Tn, τ.free → FnK G τ 1 "is_whole" ["thing", "least", "most"] S_is_whole 1 ["least", "most"] g_is_whole_least_most := fun τ hτ => fnK_of D_is_whole (K_is_whole τ hτ) [] q_is_whole_least_most (by simp) (by simp) rfl (fun h1 h2 h3 => paired_app (paired_app (h1) (paired_take 1 (paired_drop 0 h3))) (paired_take 1 (paired_drop 1 h3)))
    (fun D doc pm an cdv ct us mv ws h1 h2 h3 => match us, mv, ws, h1, h2, h3 with | [_], [], [_, _], _, _, _ => rfl)
  have H_look_writer : ∀ τ : Tn, τ.free → FnD G τ 2 "look_writer" ["log", "number"] S_look_writer := fun τ hτ => by
    unfold S_look_writer
    exact fnD_of hτ D_look_writer sc_look_writer (fun _ _ _ _ _ _ us hl => match us, hl with | [_, _], _ => rfl) (fun X O => j_look_writer F ((H_is_whole_least_most τ hτ)) O)
  have A_look_writer : FnA G 2 "look_writer" ["log", "number"] S_look_writer := ⟨⟨_, fd_look_writer, fun τ hτ => (by
    unfold S_look_writer
    exact fnOk_of hτ (G := G) D_look_writer.fn sc_look_writer (fun X O => j_look_writer F ((H_is_whole_least_most τ hτ)) O)), D_look_writer.gl, D_look_writer.fn.kp, D_look_writer.fn.bindsN (fun _ _ _ _ _ _ us hl => match us, hl with | [_, _], _ => rfl)⟩⟩
  have H_offs_held : ∀ τ : Tn, τ.free → FnD G τ 5 "offs_held" ["log"] S_offs_held := fun τ hτ => by
    unfold S_offs_held
    exact fnD_of hτ D_offs_held sc_offs_held (fun _ _ _ _ _ _ us hl => match us, hl with | [_], _ => rfl) (fun X O => j_offs_held F ((H_even_far τ hτ)) O)
  have A_offs_held : FnA G 5 "offs_held" ["log"] S_offs_held := ⟨⟨_, fd_offs_held, fun τ hτ => (by
    unfold S_offs_held
    exact fnOk_of hτ (G := G) D_offs_held.fn sc_offs_held (fun X O => j_offs_held F ((H_even_far τ hτ)) O)), D_offs_held.gl, D_offs_held.fn.kp, D_offs_held.fn.bindsN (fun _ _ _ _ _ _ us hl => match us, hl with | [_], _ => rfl)⟩⟩
  have H_offs_between : ∀ τ : Tn, τ.free → FnD G τ 6 "offs_between" ["log", "one", "other"] S_offs_between := fun τ hτ => by
    unfold S_offs_between
    exact fnD_of hτ D_offs_between sc_offs_between (fun _ _ _ _ _ _ us hl => match us, hl with | [_, _, _], _ => rfl) (fun X O => j_offs_between F ((H_look_writer τ hτ)) ((H_offs_held τ hτ)) O)
  have A_offs_between : FnA G 6 "offs_between" ["log", "one", "other"] S_offs_between := ⟨⟨_, fd_offs_between, fun τ hτ => (by
    unfold S_offs_between
    exact fnOk_of hτ (G := G) D_offs_between.fn sc_offs_between (fun X O => j_offs_between F ((H_look_writer τ hτ)) ((H_offs_held τ hτ)) O)), D_offs_between.gl, D_offs_between.fn.kp, D_offs_between.fn.bindsN (fun _ _ _ _ _ _ us hl => match us, hl with | [_, _, _], _ => rfl)⟩⟩
  have H_set_right : ∀ τ : Tn, τ.free → FnD G τ 6 "set_right" ["log", "one"] S_set_right := fun τ hτ => by
    unfold S_set_right
    exact fnD_of hτ D_set_right sc_set_right (fun _ _ _ _ _ _ us hl => match us, hl with | [_, _], _ => rfl) (fun X O => j_set_right F ((H_look_writer τ hτ)) ((H_offs_held τ hτ)) O)
  have A_set_right : FnA G 6 "set_right" ["log", "one"] S_set_right := ⟨⟨_, fd_set_right, fun τ hτ => (by
    unfold S_set_right
    exact fnOk_of hτ (G := G) D_set_right.fn sc_set_right (fun X O => j_set_right F ((H_look_writer τ hτ)) ((H_offs_held τ hτ)) O)), D_set_right.gl, D_set_right.fn.kp, D_set_right.fn.bindsN (fun _ _ _ _ _ _ us hl => match us, hl with | [_, _], _ => rfl)⟩⟩
  have H__law_town : ∀ τ : Tn, τ.free → FnD G τ 1 "_law_town" ["script"] S__law_town := fun τ hτ => by
    unfold S__law_town
    exact fnD_of hτ D__law_town sc__law_town (fun _ _ _ _ _ _ us hl => match us, hl with | [_], _ => rfl) (fun X O => j__law_town F O)
  have A__law_town : FnA G 1 "_law_town" ["script"] S__law_town := ⟨⟨_, fd__law_town, fun τ hτ => (by
    unfold S__law_town
    exact fnOk_of hτ (G := G) D__law_town.fn sc__law_town (fun X O => j__law_town F O)), D__law_town.gl, D__law_town.fn.kp, D__law_town.fn.bindsN (fun _ _ _ _ _ _ us hl => match us, hl with | [_], _ => rfl)⟩⟩
  exact law_okB (G := G) (Ts := []) (i := 1) (b := 16777220) (t := fun sl => t_law (sl := sl)) F_law sc_law rfl (fun X O => je_call O (H__law_town tn0 (fun _ => trivial)) (ja_cons (jv_var O 0) ja_nil)) town_math (fun L T X O at_ => j_law (sl := ⟨L⟩) F (H__law_draw L T) A_can_be_even A_offs_between A_set_right O) law_math rfl (by first | exact .inl rfl | exact .inr rfl) (by decide) (by decide +kernel) (fun _ => rfl)
end Py
open PySem PySem.W PySem.Calls PyProof.Rows
theorem PySem.Challenge.cw_momentyard_k96_letters_by_hand_holds : PySem.Challenge.rw_momentyard_k96_letters_by_hand.Holds := by
  w_on; o_law
  refine HandSHeadRun.head_any (r := OpenLaw.row PySem.Challenge.rw_momentyard_k96_letters_by_hand) (q := view (OpenLaw.row PySem.Challenge.rw_momentyard_k96_letters_by_hand).prog [21]) (H := Py.hk) (ob := Py.ob) (M := 20000) (loose := Py.loose) (d := HandSHeadRun.topDef (OpenLaw.row PySem.Challenge.rw_momentyard_k96_letters_by_hand).prog 21) (kwd := []) Py.ob_eq
    (by kernel_rfl) (fun s => by kernel_rfl) Py.run (by kernel_rfl) (by kernel_rfl) (by kernel_rfl) (by rfl) (by first | assumption | decide +kernel) (by decide +kernel) ⟨rfl, rfl, rfl, rfl, rfl, by decide +kernel⟩ ?hw ?hc
  case hw => w_witness2
  case hc =>
    refine L2.walk_ofE (l := PySem.Challenge.rw_momentyard_k96_letters_by_hand) (n := 63) (k := 7) (x := "script") (CX := L2.CX0) rfl (by decide) (by kernel_rfl) ⟨rfl, by decide, by decide⟩ ?F (fun _ _ _ _ z => z)
    intro w mg fa h Y G hmg0
    obtain ⟨K, KX, c⟩ := Y
    have hmg : mg ("law" : PySem.Str) = some (.ref fa) := by
      have e : (HandSHeadRun.topDef (OpenLaw.row PySem.Challenge.rw_momentyard_k96_letters_by_hand).prog 21).name = ("law" : PySem.Str) := by kernel_rfl
      rw [← e]
      exact hmg0
    obtain ⟨fd, hb, hF⟩ := Py.facts (P := (PySem.Challenge.rw_momentyard_k96_letters_by_hand).prog) (w := w) KX G hmg c
    exact ⟨K, fd, Pu.spLaw K [], KX, hb, fun H a ns hl _ hS => ⟨a, ns, rfl, hS, hl, fun _ hp => (by cases hp), fun _ => rfl⟩, hF⟩
