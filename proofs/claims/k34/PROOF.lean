import PyProof.Rows.All
import Wide.All
import OpenK.AllK
import Wide.FinOn
import HandS.Dict
import KE.KeyNested
import HandS.TupAny
import HandS.Flow
import HandS.Zip
import HandS.Conv
import HandS.ForMost
import HandS.ForExc
import HandS.Walk
import KE.DataEq
import KE.DataCmp
import KE.DataMinMax
import KE.DataIsa
import HandS.More
import HandS.Style
import HandS.Wide
import KE.GoesEnum
import KE.GoesEnumKw
import KE.GoesMore
import HandS.NoneIn
import HandS.TupLe
import HandS.IsInst
import KE.SortData
import HandS.RevRange
import HandS.Iter
import HandS.SortKw
import HandS.Text
import HandS.RaiseMore
import HandS.ForDict
import KE.KDictCopyH
import HandS.Set
import KE.KDictPairs
import HandS.DictSubView
import HandS.Rev
import HandS.DictTup
import HandS.ListItems
import KE.KItemsList
import PySem.Challenge.RW_oathlog_k34_whole_logs_agree
set_option Elab.async false
set_option linter.all false
set_option maxRecDepth 100000
set_option maxHeartbeats 4000000
/-! ## dicts whose keys are tuples of ints, None and such tuples -/
namespace L2
namespace Py
open PySem PySem.Spec PyProof.Rows
mutual
def keyN : PyData → Option NestedKey
  | .none => some .none
  | .int i => some (.num i)
  | .tuple ds => (keysN ds).map .tup
  | _ => none
def keysN : List PyData → Option (List NestedKey)
  | [] => some []
  | d :: ds => match keyN d, keysN ds with
    | some k, some ks => some (k :: ks)
    | _, _ => none
end
mutual
theorem keyN_hash (w w' : World) : ∀ (d : PyData) (k : NestedKey), keyN d = some k → k.hash w = k.hash w'
  | .none, _, h => by simp only [keyN, Option.some.injEq] at h; subst h; rfl
  | .int i, _, h => by simp only [keyN, Option.some.injEq] at h; subst h; rfl
  | .tuple ds, k, h => by
    simp only [keyN, Option.map_eq_some_iff] at h
    obtain ⟨ks, h1, rfl⟩ := h
    simp only [NestedKey.hash, keysN_hash w w' ds ks h1]
  | .bool _, _, h => by simp [keyN] at h
  | .str _, _, h => by simp [keyN] at h
  | .list _, _, h => by simp [keyN] at h
  | .dict _, _, h => by simp [keyN] at h
theorem keysN_hash (w w' : World) : ∀ (ds : List PyData) (ks : List NestedKey), keysN ds = some ks → NestedKey.hashes w ks = NestedKey.hashes w' ks
  | [], _, h => by simp only [keysN, Option.some.injEq] at h; subst h; rfl
  | d :: ds, ks, h => by
    rw [keysN] at h
    split at h
    · rename_i k ks' h1 h2
      cases h
      simp only [NestedKey.hashes, keyN_hash w w' d k h1, keysN_hash w w' ds ks' h2]
    · cases h
end
/-- a tuple as a key -/
def keyT (d : PyData) : Option NestedKey := match d with
  | .tuple _ => (keyN d).bind fun k => if k.depth ≤ 8 then some k else none
  | _ => none
theorem keyT_N {d : PyData} {k : NestedKey} (h : keyT d = some k) : keyN d = some k ∧ k.depth ≤ 8 ∧ ∃ ds, d = .tuple ds := by
  unfold keyT at h
  split at h
  · rename_i ds
    cases q : keyN (.tuple ds) with
    | none => rw [q] at h; cases h
    | some k' =>
      rw [q, Option.bind_some] at h
      split at h
      · cases h; exact ⟨rfl, by assumption, _, rfl⟩
      · cases h
  · cases h
/-- an entry as the object has it -/
abbrev NE := NestedKey × Addr × Value
def entN (w : World) (x : NE) : DictEntry := ⟨x.1.hash w, .ref x.2.1, x.2.2⟩
abbrev KTN : List (NestedKey × Addr × V) → List NE → Prop := Paired fun p q => p.1 = q.1 ∧ p.2.1 = q.2.1 ∧ RelV p.2.2 q.2.2
/-- the dict at a with these entries -/
def NDok (a : Addr) (xs : List (NestedKey × Addr × V)) (h : Heap) : Prop := (a == sysModules) = false ∧ xs.length ≤ sizeLine ∧ ∃ ys : List NE, KTN xs ys ∧
  ∃ o es ep, h.get? a = some o ∧ o.ExactDict ∧ o.data = .dict es ep ∧ (∀ w, es.toList = ys.map (entN w)) ∧ (ys.map (·.1)).Nodup
def ND (a : Addr) (xs : List (NestedKey × Addr × V)) : HO := .ext (NDok a xs)
theorem NDok.stay {a : Addr} {xs : List (NestedKey × Addr × V)} {h h' : Heap} (x : NDok a xs h) (k : ∀ o, h.get? a = some o → h'.get? a = some o) : NDok a xs h' := by
  obtain ⟨z, y, ys, r, o, es, ep, h1, h2⟩ := x
  exact ⟨z, y, ys, r, o, es, ep, k _ h1, h2⟩
theorem nd_obj {P : Program} {w : World} {H : Hp} {a : Addr} {xs : List (NestedKey × Addr × V)} {h : Heap} (x : NDok a xs h) : ObjOk P w H h a (ND a xs) := by
  refine ⟨x, ?_, fun h1 h2 x k => x.stay k⟩
  obtain ⟨_, _, _, _, o, _, _, h1, _⟩ := x
  exact ⟨o, h1⟩
theorem nd_ok {P : Program} {w : World} {H : Hp} {a : Addr} {xs : List (NestedKey × Addr × V)} {h : Heap} (x : ObjOk P w H h a (ND a xs)) : NDok a xs h := x.1
theorem ND_dK {a : Addr} {xs : List (NestedKey × Addr × V)} {kvs : List (Key × V)} : ND a xs ≠ .dK kvs := fun e => nomatch e
end Py
end L2

/-! ## New tuples are known to have no dict of their own -/
namespace L2
open PySem PySem.Spec PyProof.Rows
namespace Py
/-- are all tuples of this law known to have no dict of their own? -/
def plainOn : Bool := true
def Pln (K : PySem.W.Frag) (F : Hp) (a : Addr) : Prop := plainOn = false ∨ (∃ o u, F a = some (.frz o u) ∧ o.dict = none) ∨ ∃ o, K.lookup a = some o ∧ o.dict = none
structure SqP (K : PySem.W.Frag) (F : Hp) (a : Addr) (xs : List V) : Prop where
  sq : SqT K F a xs
  pl : Pln K F a
theorem same_sqP {K : PySem.W.Frag} {F G : Hp} {a : Addr} {xs : List V} (s : Same F G) (h : SqP K F a xs) : SqP K G a xs := by
  refine ⟨?_, ?_⟩
  · rcases h.sq with (h | ⟨o, h⟩) | h
    · exact .inl (.inl (s _ _ h))
    · exact .inl (.inr ⟨o, s _ _ h⟩)
    · exact .inr h
  · rcases h.pl with h | ⟨o, u, h, d⟩ | h
    · exact .inl h
    · exact .inr (.inl ⟨o, u, s _ _ h, d⟩)
    · exact .inr (.inr h)
theorem sqP_frz {K : PySem.W.Frag} {F : Hp} {a : Addr} {xs : List V} {o : Obj} (h : F a = some (.frz o (.tup xs))) (d : o.dict = none) : SqP K F a xs := ⟨.inl (.inr ⟨o, h⟩), .inr (.inl ⟨o, _, h, d⟩)⟩
theorem sqP_off {K : PySem.W.Frag} {F : Hp} {a : Addr} {xs : List V} (off : plainOn = false) (h : SqT K F a xs) : SqP K F a xs := ⟨h, .inl off⟩
/-- a new tuple -/
def NwT (H : Hp) (xs : List V) (Q : VK) : Prop := ∀ (p : Addr) (o : Obj), H p = none → o.dict = none → Q (.ref p) (upd H p (.frz o (.tup xs)))
section
variable {X : Cx} {pins : List (Addr × Obj)} {σ : St} {H : Hp} {s : Shared}
theorem Inv.plain {a : Addr} {xs : List V} (on : plainOn = true) (I : Inv X pins σ H s) (p : SqP X.K H a xs) : ∃ o, s.heap.get? a = some o ∧ o.dict = none := by
  rcases p.pl with z | ⟨o, u, e, d⟩ | ⟨o, e, d⟩
  · rw [on] at z; cases z
  · exact ⟨o, (show ObjOk X.prog X.w H s.heap a (.frz o u) from I.hok a _ e).1, d⟩
  · exact ⟨o, I.kIn a o e, d⟩
theorem nw_laid {xs : List V} {us : List Value} {Q : VK} {h : Heap} {k : Nat} (I : Inv X pins σ H { s with heap := h, toks := k }) (r : Vals xs us) (z : xs.length ≤ sizeLine) (q : NwT H xs Q) : EP X pins σ Q (.ref h.objs.size) { s with heap := h.push { cls := .type "tuple", data := .seq us.toArray }, toks := k } := by
  have hf : H h.objs.size = none := I.hok.fresh (Nat.le_refl _)
  refine ⟨.ref _, _, I.laid (o := .frz { cls := .type "tuple", data := .seq us.toArray } (.tup xs)) (t' := k) (fun b u e => Heap.get?_push_of_some _ e) (Nat.le_refl _) ?_, rfl, q _ _ hf rfl⟩
  exact ⟨Heap.get?_push_size _ rfl, z, us, r, ⟨_, Heap.get?_push_size _ rfl, rfl, _, rfl⟩⟩
def tTupF (t : TA) : TE := fun σ H Q => t σ H fun xs H1 => xs.length ≤ sizeLine ∧ NwT H1 xs Q
theorem pe_tupF {es : List Expr} {t : TA} {pos : Pos} {x1} (h : PA X es t) : PE X (.Tuple es x1 pos) (tTupF t) := by
  refine ⟨fun pins s σ H Q I hq => ?_⟩
  exact wpAny_Tuple_spliced (thn (h.run pos pins s σ H _ I hq) fun us s1 ⟨xs, H1, I1, r, z, q⟩ => ⟨by rw [← r.length]; exact z, nw_laid (h := s1.heap) (k := s1.toks) I1 r z q⟩)
theorem nilV {xs : List V} {us : List Value} (r : Vals xs us) : us = [] ↔ xs = [] := by cases r <;> simp
/-- t + u -/
def rCatP (K : PySem.W.Frag) : R2 := fun x y H Q => ∃ a b xs ys, x = .ref a ∧ y = .ref b ∧ SqT K H a xs ∧ SqT K H b ys ∧ xs.length + ys.length ≤ sizeLine ∧ (xs = [] → Q (.ref b) H) ∧ (xs ≠ [] → ys = [] → Q (.ref a) H) ∧ (xs ≠ [] → ys ≠ [] → NwT H (xs ++ ys) Q)
theorem op_catP : OpR X (binaryOp .Add) (rCatP X.K) := by
  rintro pins s σ H x y v u Q I rx ry ⟨a, b, xs, ys, rfl, rfl, ha, hb, hz, q0, q1, q2⟩
  by_cases hx : xs = []
  · exact op_catA pins s σ H _ _ v u Q I rx ry ⟨a, b, xs, ys, rfl, rfl, ha, hb, hz, q0, q1, fun z => absurd hx z⟩
  by_cases hy : ys = []
  · exact op_catA pins s σ H _ _ v u Q I rx ry ⟨a, b, xs, ys, rfl, rfl, ha, hb, hz, q0, q1, fun _ z => absurd hy z⟩
  cases rx
  cases ry
  obtain ⟨its, r1, p1, _⟩ := I.tuple ha
  obtain ⟨its2, r2, p2, _⟩ := I.tuple hb
  refine HT.cat_tup p1 p2 (fun z => hx ((nilV r1).mp z)) (fun z => absurd ((nilV r2).mp z) hy) (fun z => ?_) (by rw [← r1.length, ← r2.length]; exact hz)
  exact nw_laid (h := s.heap) (k := s.toks) I (r1.append r2) (by rw [List.length_append]; exact hz) (q2 hx hy)
/-- t[lo:hi] -/
def rSlP (K : PySem.W.Frag) : V → Option Int → Option Int → Hp → VK → Prop := fun x lo hi H Q => ∃ a xs, x = .ref a ∧ SqT K H a xs ∧
  (HT.sIx xs.length 0 lo = 0 ∧ HT.sIx xs.length xs.length hi = xs.length → Q (.ref a) H) ∧ (¬ (HT.sIx xs.length 0 lo = 0 ∧ HT.sIx xs.length xs.length hi = xs.length) → NwT H (cutV xs lo hi) Q)
theorem sl_tupP : SlR X (rSlP X.K) := by
  rintro pins s σ H x v vl vu lo hi sl Q I rx hs pl pu ⟨a, xs, rfl, hx, q1, q2⟩
  by_cases hw : HT.sIx xs.length 0 lo = 0 ∧ HT.sIx xs.length xs.length hi = xs.length
  · exact sl_tupA pins s σ H _ v vl vu lo hi sl Q I rx hs pl pu ⟨a, xs, rfl, hx, q1, fun z => absurd hw z⟩
  cases rx
  obtain ⟨its, r, ht, hz⟩ := I.tuple hx
  have hlen : its.toArray.size = xs.length := by rw [List.size_toArray]; exact r.length.symm
  refine ⟨"tuple", _, PyProof.Rows.slot_tuple_getitem.lookup, ht.typeIs, HT.getItem_tuple_cut ht hs pl pu (by rw [hlen]; exact hw) ?_ (by rw [hlen]; exact hz)⟩
  rw [hlen]
  exact nw_laid (h := s.heap) (k := s.toks) I ((r.drop (HT.sIx xs.length 0 lo)).take (HT.sIx xs.length xs.length hi - HT.sIx xs.length 0 lo)) (Nat.le_trans (cutV_length xs lo hi) hz) (q2 hw)
/-- tuple(x) -/
def rTupP (K : PySem.W.Frag) : List V → Hp → VK → Prop := fun xs H Q => ∃ p ys, xs = [.ref p] ∧ ((SqL K H p ys ∧ NwT H ys Q) ∨ (SqT K H p ys ∧ Q (.ref p) H))
theorem call_tupP : CallR X (.type "tuple") (rTupP X.K) := by
  rintro pins s σ H xs us Q I r ⟨p, ys, rfl, ⟨hq, q⟩ | ⟨hq, q⟩⟩
  · obtain ⟨u, rfl, rx⟩ := vals1 r
    cases rx
    obtain ⟨its, r', pl, hz⟩ := I.list hq
    have hlen := r'.length
    refine call_tuple_list pl.isList (fun h' kp => ?_) (by simp only [List.size_toArray] <;> omega)
    exact nw_laid (s := s) (h := h') (k := s.toks) (I.kept (t' := s.toks) kp) r' hz q
  · exact call_tuple_of pins s σ H _ us Q I r ⟨p, ys, rfl, .inr ⟨hq, q⟩⟩
end
end Py
end L2

/-! ## A value semantics over the hand layer
Slots hold data; lists that are changed have one owner. -/
namespace L2
namespace Py
open PySem PySem.Spec PyProof.Rows

/-- what a slot holds: nothing, a datum (never changed), a thing of its own, a lent one (a parameter's), one that is walked, a lent one that was made fast -/
inductive Sl where
  | no | val (d : PyData) | own (d : PyData) | inn (d : PyData) | bor (d : PyData) | fix (d : PyData)
abbrev En := List Sl
/-- what an expression gives: a datum, a new thing that nobody else holds, the thing that stands in a slot -/
inductive Op where
  | v (d : PyData) | fr (d : PyData) | pl (i : Nat)
inductive Res (α : Type) where
  | ok (a : α) (ρ : En) | exc (c : Str) (ρ : En) | bad
def bnd {α β : Type} (m : En → Res α) (k : α → En → Res β) : En → Res β := fun ρ => match m ρ with
  | .ok a ρ' => k a ρ'
  | .exc c ρ' => .exc c ρ'
  | .bad => .bad

/-! ### data in a heap -/
/-- a key as a datum -/
def keyD : Key → PyData
  | .inl i => .int i
  | .inr x => .str x
mutual
inductive Rp (K : PySem.W.Frag) (F : Hp) : V → PyData → Prop
  | non : Rp K F .non .none
  | bl (b : Bool) : Rp K F (.bl b) (.bool b)
  | int (i : Int) : Rp K F (.int i) (.int i)
  | str (x : Str) : Rp K F (.str x) (.str x)
  | lst {a : Addr} {xs : List V} {ds : List PyData} : SqL K F a xs → RpL K F xs ds → Rp K F (.ref a) (.list ds)
  | tup {a : Addr} {xs : List V} {ds : List PyData} : SqP K F a xs → RpL K F xs ds → Rp K F (.ref a) (.tuple ds)
  | dic {a : Addr} {kvs : List (Key × V)} {ds : List (PyData × PyData)} : Rd F a (.dK kvs) → RpK K F kvs ds → Rp K F (.ref a) (.dict ds)
  | dicN {a : Addr} {kvs : List (NestedKey × Addr × V)} {ds : List (PyData × PyData)} : Rd F a (ND a kvs) → RpN K F kvs ds → ds ≠ [] → Rp K F (.ref a) (.dict ds)
inductive RpL (K : PySem.W.Frag) (F : Hp) : List V → List PyData → Prop
  | nil : RpL K F [] []
  | cons {v : V} {vs : List V} {d : PyData} {ds : List PyData} : Rp K F v d → RpL K F vs ds → RpL K F (v :: vs) (d :: ds)
inductive RpK (K : PySem.W.Frag) (F : Hp) : List (Key × V) → List (PyData × PyData) → Prop
  | nil : RpK K F [] []
  | cons {k : Key} {v : V} {kvs : List (Key × V)} {d : PyData} {ds : List (PyData × PyData)} : Rp K F v d → RpK K F kvs ds → RpK K F ((k, v) :: kvs) ((keyD k, d) :: ds)
inductive RpN (K : PySem.W.Frag) (F : Hp) : List (NestedKey × Addr × V) → List (PyData × PyData) → Prop
  | nil : RpN K F [] []
  | cons {k : NestedKey} {b : Addr} {v : V} {kvs : List (NestedKey × Addr × V)} {kd d : PyData} {ds : List (PyData × PyData)} : keyT kd = some k → Rp K F (.ref b) kd → Rp K F v d → RpN K F kvs ds → RpN K F ((k, b, v) :: kvs) ((kd, d) :: ds)
end
/-- a dict whose keys are tuples -/
def nestD : List (PyData × PyData) → Bool
  | (.tuple _, _) :: _ => true
  | _ => false
theorem RpK.flat {K : PySem.W.Frag} {F : Hp} : ∀ {kvs : List (Key × V)} {ds : List (PyData × PyData)}, RpK K F kvs ds → nestD ds = false
  | _, _, .nil => rfl
  | _, _, @RpK.cons _ _ k _ _ _ _ _ _ => by cases k <;> rfl
theorem RpN.nest {K : PySem.W.Frag} {F : Hp} : ∀ {kvs : List (NestedKey × Addr × V)} {ds : List (PyData × PyData)}, RpN K F kvs ds → ds ≠ [] → nestD ds = true
  | _, _, .nil, h => absurd rfl h
  | _, _, .cons h _ _ _, _ => by obtain ⟨_, _, ds, rfl⟩ := keyT_N h; rfl
theorem same_sqL {K : PySem.W.Frag} {F G : Hp} {a : Addr} {xs : List V} (s : Same F G) (h : SqL K F a xs) : SqL K G a xs := s.seq h
theorem same_sqT {K : PySem.W.Frag} {F G : Hp} {a : Addr} {xs : List V} (s : Same F G) (h : SqT K F a xs) : SqT K G a xs := by
  rcases h with (h | ⟨o, h⟩) | h
  · exact .inl (.inl (s _ _ h))
  · exact .inl (.inr ⟨o, s _ _ h⟩)
  · exact .inr h
theorem same_rd {F G : Hp} {a : Addr} {u : HO} (s : Same F G) (h : Rd F a u) : Rd G a u := by
  rcases h with h | ⟨o, h⟩
  · exact .inl (s _ _ h)
  · exact .inr ⟨o, s _ _ h⟩
mutual
theorem Rp.mono {K : PySem.W.Frag} {F G : Hp} (s : Same F G) : ∀ {v : V} {d : PyData}, Rp K F v d → Rp K G v d
  | _, _, .non => .non
  | _, _, .bl b => .bl b
  | _, _, .int i => .int i
  | _, _, .str x => .str x
  | _, _, .lst h t => .lst (same_sqL s h) (RpL.mono s t)
  | _, _, .tup h t => .tup (same_sqP s h) (RpL.mono s t)
  | _, _, .dic h t => .dic (same_rd s h) (RpK.mono s t)
  | _, _, .dicN h t n => .dicN (same_rd s h) (RpN.mono s t) n
theorem RpL.mono {K : PySem.W.Frag} {F G : Hp} (s : Same F G) : ∀ {vs : List V} {ds : List PyData}, RpL K F vs ds → RpL K G vs ds
  | _, _, .nil => .nil
  | _, _, .cons h t => .cons (Rp.mono s h) (RpL.mono s t)
theorem RpK.mono {K : PySem.W.Frag} {F G : Hp} (s : Same F G) : ∀ {vs : List (Key × V)} {ds : List (PyData × PyData)}, RpK K F vs ds → RpK K G vs ds
  | _, _, .nil => .nil
  | _, _, .cons h t => .cons (Rp.mono s h) (RpK.mono s t)
theorem RpN.mono {K : PySem.W.Frag} {F G : Hp} (s : Same F G) : ∀ {vs : List (NestedKey × Addr × V)} {ds : List (PyData × PyData)}, RpN K F vs ds → RpN K G vs ds
  | _, _, .nil => .nil
  | _, _, .cons e h h2 t => .cons e (Rp.mono s h) (Rp.mono s h2) (RpN.mono s t)
end
theorem RpN.length {K : PySem.W.Frag} {F : Hp} : ∀ {vs : List (NestedKey × Addr × V)} {ds : List (PyData × PyData)}, RpN K F vs ds → vs.length = ds.length
  | _, _, .nil => rfl
  | _, _, .cons _ _ _ t => by rw [List.length_cons, List.length_cons, t.length]
theorem RpK.length {K : PySem.W.Frag} {F : Hp} : ∀ {vs : List (Key × V)} {ds : List (PyData × PyData)}, RpK K F vs ds → vs.length = ds.length
  | _, _, .nil => rfl
  | _, _, .cons _ t => by rw [List.length_cons, List.length_cons, t.length]
theorem RpL.length {K : PySem.W.Frag} {F : Hp} : ∀ {vs : List V} {ds : List PyData}, RpL K F vs ds → vs.length = ds.length
  | _, _, .nil => rfl
  | _, _, .cons _ t => by rw [List.length_cons, List.length_cons, t.length]
theorem RpL.append {K : PySem.W.Frag} {F : Hp} : ∀ {vs : List V} {ds : List PyData} {ws : List V} {es : List PyData}, RpL K F vs ds → RpL K F ws es → RpL K F (vs ++ ws) (ds ++ es)
  | _, _, _, _, .nil, s => s
  | _, _, _, _, .cons h t, s => .cons h (t.append s)
theorem RpL.get {K : PySem.W.Frag} {F : Hp} : ∀ {vs : List V} {ds : List PyData} {i : Nat} {d : PyData}, RpL K F vs ds → ds[i]? = some d → ∃ v, vs[i]? = some v ∧ Rp K F v d
  | _, _, _, _, .nil, e => by simp at e
  | _, _, 0, _, .cons h _, e => by simp at e; subst e; exact ⟨_, rfl, h⟩
  | _, _, i + 1, d, .cons _ t, e => by
    obtain ⟨v, h1, h2⟩ := RpL.get (i := i) (d := d) t (by simpa using e)
    exact ⟨v, by simpa using h1, h2⟩
theorem RpL.getV {K : PySem.W.Frag} {F : Hp} : ∀ {vs : List V} {ds : List PyData} {i : Nat} {v : V}, RpL K F vs ds → vs[i]? = some v → ∃ d, ds[i]? = some d ∧ Rp K F v d
  | _, _, _, _, .nil, e => by simp at e
  | _, _, 0, _, .cons h _, e => by simp at e; subst e; exact ⟨_, rfl, h⟩
  | _, _, i + 1, d, .cons _ t, e => by
    obtain ⟨v, h1, h2⟩ := RpL.getV (i := i) (v := d) t (by simpa using e)
    exact ⟨v, by simpa using h1, h2⟩
theorem RpL.take {K : PySem.W.Frag} {F : Hp} : ∀ {vs : List V} {ds : List PyData} (n : Nat), RpL K F vs ds → RpL K F (vs.take n) (ds.take n)
  | _, _, 0, _ => .nil
  | _, _, _ + 1, .nil => .nil
  | _, _, n + 1, .cons r t => .cons r (RpL.take n t)
theorem RpL.drop {K : PySem.W.Frag} {F : Hp} : ∀ {vs : List V} {ds : List PyData} (n : Nat), RpL K F vs ds → RpL K F (vs.drop n) (ds.drop n)
  | _, _, 0, r => r
  | _, _, _ + 1, .nil => .nil
  | _, _, n + 1, .cons _ t => RpL.drop n t
theorem RpL.set {K : PySem.W.Frag} {F : Hp} {x : V} {d : PyData} (r : Rp K F x d) : ∀ {xs : List V} {us : List PyData} (i : Nat), RpL K F xs us → RpL K F (xs.set i x) (us.set i d)
  | _, _, _, .nil => .nil
  | _, _, 0, .cons _ t => .cons r t
  | _, _, i + 1, .cons q t => .cons q (RpL.set r i t)
theorem RpL.reverse {K : PySem.W.Frag} {F : Hp} : ∀ {vs : List V} {ds : List PyData}, RpL K F vs ds → RpL K F vs.reverse ds.reverse
  | _, _, .nil => .nil
  | _, _, .cons h t => by
    rw [List.reverse_cons, List.reverse_cons]
    exact t.reverse.append (.cons h .nil)

/-! ### things that may change -/
/-- the thing at a is d, not fast; its parts are -/
def Ob (K : PySem.W.Frag) (F H : Hp) (a : Addr) : PyData → Prop
  | .list ds => ∃ xs, H a = some (.lst xs) ∧ F a = none ∧ RpL K F xs ds
  | .dict ds => (∃ kvs, H a = some (.dK kvs) ∧ F a = none ∧ RpK K F kvs ds) ∨ (∃ kvs, H a = some (ND a kvs) ∧ F a = none ∧ RpN K F kvs ds ∧ ds ≠ [])
  | _ => False
def SltR (K : PySem.W.Frag) (F H : Hp) (o : Option V) : Sl → Prop
  | .no => True
  | .val d => ∃ v, o = some v ∧ Rp K F v d
  | .own d => ∃ a, o = some (.ref a) ∧ Ob K F H a d
  | .inn d => ∃ a, o = some (.ref a) ∧ Ob K F H a d
  | .bor d => ∃ a, o = some (.ref a) ∧ Ob K F H a d
  | .fix d => ∃ v, o = some v ∧ Rp K F v d
/-- slot i owns a -/
def own1 (σ : St) (ρ : En) (a : Addr) : Prop := ∃ (i : Nat) (d : PyData), ρ[i]? = some (.own d) ∧ σ[i]? = some (some (.ref a))
def inn1 (σ : St) (ρ : En) (a : Addr) : Prop := ∃ (i : Nat) (d : PyData), ρ[i]? = some (.inn d) ∧ σ[i]? = some (some (.ref a))
def ownA (σ : St) (ρ : En) (a : Addr) : Prop := own1 σ ρ a ∨ inn1 σ ρ a
/-- what may change: own, inn; what stands: own, inn, bor -/
def Sl.mut : Sl → Bool
  | .own _ => true
  | .inn _ => true
  | _ => false
def Sl.plc : Sl → Bool
  | .own _ => true
  | .inn _ => true
  | .bor _ => true
  | _ => false
theorem Sl.plc_of_mut {s : Sl} (h : s.mut = true) : s.plc = true := by cases s <;> first | rfl | cases h
structure EnvR (K : PySem.W.Frag) (F H : Hp) (σ : St) (ρ : En) : Prop where
  len : σ.length = ρ.length
  le : Same F H
  sl : ∀ (i : Nat) (s : Sl), ρ[i]? = some s → ∃ o, σ[i]? = some o ∧ SltR K F H o s
  inj : ∀ (i j : Nat) (s t : Sl) (a : Addr), i ≠ j → ρ[i]? = some s → ρ[j]? = some t → s.mut = true → t.plc = true → σ[i]? = some (some (.ref a)) → σ[j]? = some (some (.ref a)) → False
/-- what happens to the heaps: only what A says is changed or made fast -/
structure Evo (A : Addr → Prop) (F H F' H' : Hp) : Prop where
  le : Same F F'
  keep : ∀ a o, H a = some o → ¬ A a → H' a = some o
  keepF : ∀ a o, H a = some o → ¬ A a → F' a = F a
  dom : ∀ a o, H a = some o → ∃ o', H' a = some o'
/-- from one state of a body to a later one -/
structure Go (K : PySem.W.Frag) (σ : St) (ρ : En) (F H : Hp) (σ' : St) (ρ' : En) (F' H' : Hp) : Prop where
  evo : Evo (ownA σ ρ) F H F' H'
  env : EnvR K F' H' σ' ρ'
  own : ∀ a, own1 σ' ρ' a → own1 σ ρ a ∨ H a = none
  inn : ∀ (i : Nat) (d : PyData), ρ'[i]? = some (.inn d) → ∃ d0, ρ[i]? = some (.inn d0)
  bor : ∀ (i : Nat) (d : PyData), ρ'[i]? = some (.bor d) → ρ[i]? = some (.bor d)
  kin : ∀ (i : Nat) (d : PyData), ρ[i]? = some (.inn d) → σ'[i]? = σ[i]? ∧ ∃ d', ρ'[i]? = some (.inn d') ∨ ρ'[i]? = some (.fix d')
  kbo : ∀ (i : Nat) (d : PyData), ρ[i]? = some (.bor d) → σ'[i]? = σ[i]? ∧ ρ'[i]? = some (.bor d)
  kfx : ∀ (i : Nat) (d : PyData), ρ[i]? = some (.fix d) → σ'[i]? = σ[i]? ∧ ρ'[i]? = some (.fix d)
  len : ρ'.length = ρ.length

theorem Ob.there {K : PySem.W.Frag} {F H : Hp} {a : Addr} : ∀ {d : PyData}, Ob K F H a d → ∃ o, H a = some o
  | .list _, ⟨_, h, _⟩ => ⟨_, h⟩
  | .dict _, .inl ⟨_, h, _⟩ => ⟨_, h⟩
  | .dict _, .inr ⟨_, h, _⟩ => ⟨_, h⟩
theorem Ob.notF {K : PySem.W.Frag} {F H : Hp} {a : Addr} : ∀ {d : PyData}, Ob K F H a d → F a = none
  | .list _, ⟨_, _, h, _⟩ => h
  | .dict _, .inl ⟨_, _, h, _⟩ => h
  | .dict _, .inr ⟨_, _, h, _⟩ => h
theorem Ob.evo {K : PySem.W.Frag} {F H F' H' : Hp} {A : Addr → Prop} {a : Addr} (e : Evo A F H F' H') (n : ¬ A a) : ∀ {d : PyData}, Ob K F H a d → Ob K F' H' a d
  | .list _, ⟨_, h, f, r⟩ => ⟨_, e.keep _ _ h n, (e.keepF _ _ h n).trans f, r.mono e.le⟩
  | .dict _, .inl ⟨_, h, f, r⟩ => .inl ⟨_, e.keep _ _ h n, (e.keepF _ _ h n).trans f, r.mono e.le⟩
  | .dict _, .inr ⟨_, h, f, r, z⟩ => .inr ⟨_, e.keep _ _ h n, (e.keepF _ _ h n).trans f, r.mono e.le, z⟩
theorem Evo.refl {A : Addr → Prop} {F H : Hp} : Evo A F H F H := ⟨Same.refl _, fun _ _ h _ => h, fun _ _ _ _ => rfl, fun _ _ h => ⟨_, h⟩⟩
theorem Evo.weak {A B : Addr → Prop} {F H F' H' : Hp} (e : Evo A F H F' H') (h : ∀ a, A a → B a) : Evo B F H F' H' :=
  ⟨e.le, fun a o q n => e.keep a o q fun z => n (h a z), fun a o q n => e.keepF a o q fun z => n (h a z), e.dom⟩
theorem none_of_dom {H H' : Hp} (d : ∀ a o, H a = some o → ∃ o', H' a = some o') {a : Addr} (h : H' a = none) : H a = none := by
  cases q : H a with
  | none => rfl
  | some o => obtain ⟨o', e⟩ := d a o q; rw [h] at e; cases e
theorem Evo.trans {A B : Addr → Prop} {F H F1 H1 F2 H2 : Hp} (e : Evo A F H F1 H1) (g : Evo B F1 H1 F2 H2) (h : ∀ a, B a → A a ∨ H a = none) : Evo A F H F2 H2 := by
  have nb : ∀ {a o}, H a = some o → ¬ A a → ¬ B a := fun {a o} q n z => by
    rcases h a z with y | y
    · exact n y
    · rw [q] at y; cases y
  exact ⟨e.le.trans g.le, fun a o q n => g.keep a o (e.keep a o q n) (nb q n), fun a o q n => (g.keepF a o (e.keep a o q n) (nb q n)).trans (e.keepF a o q n), fun a o q => by
    obtain ⟨o', q'⟩ := e.dom a o q
    exact g.dom a o' q'⟩
theorem own_there {K : PySem.W.Frag} {F H : Hp} {σ : St} {ρ : En} (E : EnvR K F H σ ρ) {a : Addr} (h : ownA σ ρ a) : ∃ o, H a = some o := by
  rcases h with ⟨i, d, h1, h2⟩ | ⟨i, d, h1, h2⟩
  · obtain ⟨o, e, b, rfl, ob⟩ := E.sl i _ h1
    rw [h2] at e; cases e
    exact ob.there
  · obtain ⟨o, e, b, rfl, ob⟩ := E.sl i _ h1
    rw [h2] at e; cases e
    exact ob.there
theorem own_notF {K : PySem.W.Frag} {F H : Hp} {σ : St} {ρ : En} (E : EnvR K F H σ ρ) {a : Addr} (h : ownA σ ρ a) : F a = none := by
  rcases h with ⟨i, d, h1, h2⟩ | ⟨i, d, h1, h2⟩
  · obtain ⟨o, e, b, rfl, ob⟩ := E.sl i _ h1
    rw [h2] at e; cases e
    exact ob.notF
  · obtain ⟨o, e, b, rfl, ob⟩ := E.sl i _ h1
    rw [h2] at e; cases e
    exact ob.notF
theorem Go.refl {K : PySem.W.Frag} {F H : Hp} {σ : St} {ρ : En} (E : EnvR K F H σ ρ) : Go K σ ρ F H σ ρ F H :=
  ⟨.refl, E, fun _ h => .inl h, fun _ d h => ⟨d, h⟩, fun _ _ h => h, fun _ d h => ⟨rfl, d, .inl h⟩, fun _ _ h => ⟨rfl, h⟩, fun _ _ h => ⟨rfl, h⟩, rfl⟩
theorem Go.ownA {K : PySem.W.Frag} {F H F' H' : Hp} {σ σ' : St} {ρ ρ' : En} (g : Go K σ ρ F H σ' ρ' F' H') {a : Addr} (h : ownA σ' ρ' a) : ownA σ ρ a ∨ H a = none := by
  rcases h with h | ⟨i, d, h1, h2⟩
  · rcases g.own a h with z | z
    · exact .inl (.inl z)
    · exact .inr z
  · obtain ⟨d0, e⟩ := g.inn i d h1
    have := (g.kin i d0 e).1
    exact .inl (.inr ⟨i, d0, e, this ▸ h2⟩)
theorem Go.trans {K : PySem.W.Frag} {F H F1 H1 F2 H2 : Hp} {σ σ1 σ2 : St} {ρ ρ1 ρ2 : En} (g : Go K σ ρ F H σ1 ρ1 F1 H1) (k : Go K σ1 ρ1 F1 H1 σ2 ρ2 F2 H2) : Go K σ ρ F H σ2 ρ2 F2 H2 where
  evo := g.evo.trans k.evo fun a h => g.ownA h
  env := k.env
  own := fun a h => by
    rcases k.own a h with z | z
    · exact g.own a z
    · exact .inr (none_of_dom g.evo.dom z)
  inn := fun i d h => by
    obtain ⟨d1, e⟩ := k.inn i d h
    exact g.inn i d1 e
  bor := fun i d h => g.bor i d (k.bor i d h)
  kin := fun i d h => by
    obtain ⟨e1, d1, h1⟩ := g.kin i d h
    rcases h1 with h1 | h1
    · obtain ⟨e2, d2, h2⟩ := k.kin i d1 h1
      exact ⟨e2.trans e1, d2, h2⟩
    · obtain ⟨e2, h2⟩ := k.kfx i d1 h1
      exact ⟨e2.trans e1, d1, .inr h2⟩
  kbo := fun i d h => by
    obtain ⟨e1, h1⟩ := g.kbo i d h
    obtain ⟨e2, h2⟩ := k.kbo i d h1
    exact ⟨e2.trans e1, h2⟩
  kfx := fun i d h => by
    obtain ⟨e1, h1⟩ := g.kfx i d h
    obtain ⟨e2, h2⟩ := k.kfx i d h1
    exact ⟨e2.trans e1, h2⟩
  len := k.len.trans g.len
/-- only the heaps change, and only by new things -/
theorem EnvR.evo {K : PySem.W.Frag} {F H F' H' : Hp} {σ : St} {ρ : En} {A : Addr → Prop} (E : EnvR K F H σ ρ) (e : Evo A F H F' H') (le : Same F' H') (na : ∀ (i : Nat) (s : Sl) (a : Addr), ρ[i]? = some s → s.plc = true → σ[i]? = some (some (.ref a)) → ¬ A a) : EnvR K F' H' σ ρ where
  len := E.len
  le := le
  sl := fun i s h => by
    obtain ⟨o, h1, h2⟩ := E.sl i s h
    refine ⟨o, h1, ?_⟩
    cases s with
    | no => trivial
    | val d => obtain ⟨v, e1, r⟩ := h2; exact ⟨v, e1, r.mono e.le⟩
    | fix d => obtain ⟨v, e1, r⟩ := h2; exact ⟨v, e1, r.mono e.le⟩
    | own d => obtain ⟨a, e1, r⟩ := h2; subst e1; exact ⟨a, rfl, r.evo e (na i _ a h rfl h1)⟩
    | inn d => obtain ⟨a, e1, r⟩ := h2; subst e1; exact ⟨a, rfl, r.evo e (na i _ a h rfl h1)⟩
    | bor d => obtain ⟨a, e1, r⟩ := h2; subst e1; exact ⟨a, rfl, r.evo e (na i _ a h rfl h1)⟩
  inj := E.inj
theorem EnvR.plc_there {K : PySem.W.Frag} {F H : Hp} {σ : St} {ρ : En} (E : EnvR K F H σ ρ) {i : Nat} {s : Sl} {a : Addr} (h : ρ[i]? = some s) (p : s.plc = true) (e : σ[i]? = some (some (.ref a))) : (∃ o, H a = some o) ∧ F a = none := by
  obtain ⟨o, h1, h2⟩ := E.sl i s h
  rw [h1] at e; cases e
  cases s with
  | no => cases p
  | val d => cases p
  | fix d => cases p
  | own d => obtain ⟨b, e1, r⟩ := h2; cases e1; exact ⟨r.there, r.notF⟩
  | inn d => obtain ⟨b, e1, r⟩ := h2; cases e1; exact ⟨r.there, r.notF⟩
  | bor d => obtain ⟨b, e1, r⟩ := h2; cases e1; exact ⟨r.there, r.notF⟩
/-- only new things: nothing of the env is touched -/
theorem Go.news {K : PySem.W.Frag} {F H F' H' : Hp} {σ : St} {ρ : En} (E : EnvR K F H σ ρ) (e : Evo (fun a => H a = none) F H F' H') (le : Same F' H') : Go K σ ρ F H σ ρ F' H' where
  evo := ⟨e.le, fun a o h _ => e.keep a o h (by rw [h]; simp), fun a o h _ => e.keepF a o h (by rw [h]; simp), e.dom⟩
  env := E.evo e le fun i s a h p q z => by
    obtain ⟨⟨o, h1⟩, _⟩ := E.plc_there h p q
    rw [h1] at z; cases z
  own := fun _ h => .inl h
  inn := fun _ d h => ⟨d, h⟩
  bor := fun _ _ h => h
  kin := fun _ d h => ⟨rfl, d, .inl h⟩
  kbo := fun _ _ h => ⟨rfl, h⟩
  kfx := fun _ _ h => ⟨rfl, h⟩
  len := rfl
/-- a new thing is laid, fast or not -/
theorem Go.lay {K : PySem.W.Frag} {F H : Hp} {σ : St} {ρ : En} (E : EnvR K F H σ ρ) {p : Addr} (hp : H p = none) (o : HO) : Go K σ ρ F H σ ρ F (upd H p o) := by
  refine Go.news E ⟨Same.refl _, fun a o' h _ => ?_, fun _ _ _ _ => rfl, fun a o' h => ?_⟩ fun a o' h => ?_
  · rw [upd_ne (ne_of_none h hp)]; exact h
  · rw [upd_ne (ne_of_none h hp)]; exact ⟨_, h⟩
  · rw [upd_ne (ne_of_none (E.le _ _ h) hp)]; exact E.le _ _ h
theorem Go.layF {K : PySem.W.Frag} {F H : Hp} {σ : St} {ρ : En} (E : EnvR K F H σ ρ) {p : Addr} (hp : H p = none) (o : HO) : Go K σ ρ F H σ ρ (upd F p o) (upd H p o) := by
  have hF : F p = none := E.le.free hp
  refine Go.news E ⟨fun a o' h => ?_, fun a o' h _ => ?_, fun a o' h _ => ?_, fun a o' h => ?_⟩ fun a o' h => ?_
  · rw [upd_ne (ne_of_none h hF)]; exact h
  · rw [upd_ne (ne_of_none h hp)]; exact h
  · rw [upd_ne (ne_of_none h hp)]
  · rw [upd_ne (ne_of_none h hp)]; exact ⟨_, h⟩
  · by_cases e : a = p
    · subst e; rw [upd_same] at h; rw [upd_same]; exact h
    · rw [upd_ne e] at h; rw [upd_ne e]; exact E.le _ _ h

/-- from one state of an expression's evaluation to a later one -/
structure GoE (K : PySem.W.Frag) (σ : St) (ρ : En) (F H : Hp) (ρ' : En) (F' H' : Hp) : Prop where
  go : Go K σ ρ F H σ ρ' F' H'
  ow : ∀ (i : Nat) (d : PyData), ρ'[i]? = some (.own d) → ∃ d0, ρ[i]? = some (.own d0)
theorem GoE.refl {K : PySem.W.Frag} {F H : Hp} {σ : St} {ρ : En} (E : EnvR K F H σ ρ) : GoE K σ ρ F H ρ F H := ⟨.refl E, fun _ d h => ⟨d, h⟩⟩
theorem GoE.trans {K : PySem.W.Frag} {F H F1 H1 F2 H2 : Hp} {σ : St} {ρ ρ1 ρ2 : En} (g : GoE K σ ρ F H ρ1 F1 H1) (k : GoE K σ ρ1 F1 H1 ρ2 F2 H2) : GoE K σ ρ F H ρ2 F2 H2 :=
  ⟨g.go.trans k.go, fun i d h => by obtain ⟨d1, h1⟩ := k.ow i d h; exact g.ow i d1 h1⟩
theorem GoE.ownA {K : PySem.W.Frag} {F H F' H' : Hp} {σ : St} {ρ ρ' : En} (g : GoE K σ ρ F H ρ' F' H') {a : Addr} (h : ownA σ ρ' a) : ownA σ ρ a := by
  rcases h with ⟨i, d, h1, h2⟩ | ⟨i, d, h1, h2⟩
  · obtain ⟨d0, e⟩ := g.ow i d h1; exact .inl ⟨i, d0, e, h2⟩
  · obtain ⟨d0, e⟩ := g.go.inn i d h1; exact .inr ⟨i, d0, e, h2⟩
theorem GoE.env {K : PySem.W.Frag} {F H F' H' : Hp} {σ : St} {ρ ρ' : En} (g : GoE K σ ρ F H ρ' F' H') : EnvR K F' H' σ ρ' := g.go.env
theorem GoE.news {K : PySem.W.Frag} {F H F' H' : Hp} {σ : St} {ρ : En} (E : EnvR K F H σ ρ) (e : Evo (fun a => H a = none) F H F' H') (le : Same F' H') : GoE K σ ρ F H ρ F' H' := ⟨.news E e le, fun _ d h => ⟨d, h⟩⟩
theorem GoE.lay {K : PySem.W.Frag} {F H : Hp} {σ : St} {ρ : En} (E : EnvR K F H σ ρ) {p : Addr} (hp : H p = none) (o : HO) : GoE K σ ρ F H ρ F (upd H p o) := ⟨.lay E hp o, fun _ d h => ⟨d, h⟩⟩
theorem GoE.layF {K : PySem.W.Frag} {F H : Hp} {σ : St} {ρ : En} (E : EnvR K F H σ ρ) {p : Addr} (hp : H p = none) (o : HO) : GoE K σ ρ F H ρ (upd F p o) (upd H p o) := ⟨.layF E hp o, fun _ d h => ⟨d, h⟩⟩

/-! ### operands -/
/-- v is the operand o, where the evaluation began at the heap H0 -/
def OdR (K : PySem.W.Frag) (H0 F H : Hp) (σ : St) (v : V) : Op → Prop
  | .v d => Rp K F v d
  | .fr d => ∃ a, v = .ref a ∧ H0 a = none ∧ Ob K F H a d
  | .pl i => σ[i]? = some (some v)
def Sl.dat : Sl → Option PyData
  | .no => none
  | .val d => some d
  | .own d => some d
  | .inn d => some d
  | .bor d => some d
  | .fix d => some d
/-- the datum that an operand is now -/
def rd (ρ : En) : Op → Option PyData
  | .v d => some d
  | .fr d => some d
  | .pl i => (ρ[i]?).bind Sl.dat
/-- v reads as d, its parts fast -/
def Rd1 (K : PySem.W.Frag) (F H : Hp) (v : V) : PyData → Prop
  | .list ds => ∃ a xs, v = .ref a ∧ SqL K H a xs ∧ RpL K F xs ds
  | .tuple ds => ∃ a xs, v = .ref a ∧ SqP K F a xs ∧ RpL K F xs ds
  | .dict ds => (∃ a kvs, v = .ref a ∧ Rd H a (.dK kvs) ∧ RpK K F kvs ds) ∨ (∃ a kvs, v = .ref a ∧ Rd H a (ND a kvs) ∧ RpN K F kvs ds ∧ ds ≠ [])
  | d => Rp K F v d
theorem Rd1.of {K : PySem.W.Frag} {F H : Hp} (le : Same F H) {v : V} {d : PyData} (r : Rp K F v d) : Rd1 K F H v d := by
  cases r with
  | non => exact .non
  | bl b => exact .bl b
  | int i => exact .int i
  | str x => exact .str x
  | lst h t => exact ⟨_, _, rfl, same_sqL le h, t⟩
  | tup h t => exact ⟨_, _, rfl, h, t⟩
  | dic h t => exact .inl ⟨_, _, rfl, same_rd le h, t⟩
  | dicN h t n => exact .inr ⟨_, _, rfl, same_rd le h, t, n⟩
theorem Rd1.rp {K : PySem.W.Frag} {F H : Hp} (le : Same F H) {v : V} : ∀ {d : PyData}, Rd1 K F H v d → Rp K H v d
  | .list _, ⟨a, xs, e, h, t⟩ => by subst e; exact .lst h (t.mono le)
  | .tuple _, ⟨a, xs, e, h, t⟩ => by subst e; exact .tup (same_sqP le h) (t.mono le)
  | .none, h => Rp.mono le h
  | .bool _, h => Rp.mono le h
  | .int _, h => Rp.mono le h
  | .str _, h => Rp.mono le h
  | .dict _, .inl ⟨a, xs, e, h, t⟩ => by subst e; exact .dic h (t.mono le)
  | .dict _, .inr ⟨a, xs, e, h, t, n⟩ => by subst e; exact .dicN h (t.mono le) n
theorem Ob.rd1 {K : PySem.W.Frag} {F H : Hp} {a : Addr} : ∀ {d : PyData}, Ob K F H a d → Rd1 K F H (.ref a) d
  | .list _, ⟨xs, h, _, r⟩ => ⟨a, xs, rfl, .inl (.inl h), r⟩
  | .dict _, .inl ⟨xs, h, _, r⟩ => .inl ⟨a, xs, rfl, .inl h, r⟩
  | .dict _, .inr ⟨xs, h, _, r, n⟩ => .inr ⟨a, xs, rfl, .inl h, r, n⟩
theorem Rd1.flat {K : PySem.W.Frag} {F H : Hp} {v : V} {ds : List (PyData × PyData)} (h : Rd1 K F H v (.dict ds)) (n : nestD ds = false) : ∃ a kvs, v = .ref a ∧ Rd H a (.dK kvs) ∧ RpK K F kvs ds := by
  rcases h with h | ⟨_, _, _, _, r, z⟩
  · exact h
  · rw [r.nest z] at n; cases n
/-- made fast -/
theorem Ob.fast {K : PySem.W.Frag} {F H : Hp} {a : Addr} : ∀ {d : PyData}, Ob K F H a d → ∃ o, H a = some o ∧ F a = none ∧ Rp K (upd F a o) (.ref a) d
  | .list _, ⟨xs, h, f, r⟩ => ⟨_, h, f, .lst (.inl (.inl upd_same)) (r.mono fun b o q => by rw [upd_ne (ne_of_none q f)]; exact q)⟩
  | .dict _, .inl ⟨xs, h, f, r⟩ => ⟨_, h, f, .dic (.inl upd_same) (r.mono fun b o q => by rw [upd_ne (ne_of_none q f)]; exact q)⟩
  | .dict _, .inr ⟨xs, h, f, r, n⟩ => ⟨_, h, f, .dicN (.inl upd_same) (r.mono fun b o q => by rw [upd_ne (ne_of_none q f)]; exact q) n⟩
theorem OdR.rd1 {K : PySem.W.Frag} {H0 F H : Hp} {σ : St} {ρ : En} (E : EnvR K F H σ ρ) {v : V} {o : Op} {d : PyData} (h : OdR K H0 F H σ v o) (e : rd ρ o = some d) : Rd1 K F H v d := by
  cases o with
  | v d' => cases e; exact Rd1.of E.le h
  | fr d' => cases e; obtain ⟨a, rfl, _, ob⟩ := h; exact ob.rd1
  | pl i =>
    have h : σ[i]? = some (some v) := h
    have e : (ρ[i]?).bind Sl.dat = some d := e
    cases q : ρ[i]? with
    | none => rw [q] at e; cases e
    | some s =>
      rw [q] at e
      obtain ⟨o, h1, h2⟩ := E.sl i s q
      rw [h] at h1; cases h1
      cases s with
      | no => cases e
      | val d' => cases e; obtain ⟨w, e1, r⟩ := h2; cases e1; exact Rd1.of E.le r
      | fix d' => cases e; obtain ⟨w, e1, r⟩ := h2; cases e1; exact Rd1.of E.le r
      | own d' => cases e; obtain ⟨a, e1, r⟩ := h2; cases e1; exact r.rd1
      | inn d' => cases e; obtain ⟨a, e1, r⟩ := h2; cases e1; exact r.rd1
      | bor d' => cases e; obtain ⟨a, e1, r⟩ := h2; cases e1; exact r.rd1
/-- an operand stays what it is while others are evaluated -/
theorem OdR.go {K : PySem.W.Frag} {H0 F0 F H F' H' : Hp} {σ : St} {ρ0 ρ ρ' : En} (E : EnvR K F0 H0 σ ρ0) (g0 : GoE K σ ρ0 F0 H0 ρ F H) (g : GoE K σ ρ F H ρ' F' H') {v : V} {o : Op} (h : OdR K H0 F H σ v o) : OdR K H0 F' H' σ v o := by
  cases o with
  | v d => exact Rp.mono g.go.evo.le h
  | fr d =>
    obtain ⟨a, e, n, ob⟩ := h
    exact ⟨a, e, n, ob.evo g.go.evo fun z => by obtain ⟨o, q⟩ := own_there E (g0.ownA z); rw [n] at q; cases q⟩
  | pl i => exact h
theorem OdR.early {K : PySem.W.Frag} {H0 H1 F H : Hp} {σ : St} (dm : ∀ a o, H0 a = some o → ∃ o', H1 a = some o') {v : V} {o : Op} (h : OdR K H1 F H σ v o) : OdR K H0 F H σ v o := by
  cases o with
  | v d => exact h
  | fr d => obtain ⟨a, e, n, ob⟩ := h; exact ⟨a, e, none_of_dom dm n, ob⟩
  | pl i => exact h
end Py
end L2

namespace L2
namespace Py
open PySem PySem.Spec PyProof.Rows

abbrev XW := Str → St → En → Hp → Hp → Prop
def Post {α : Type} (K : PySem.W.Frag) (W : XW) (σ : St) (ρ : En) (F H : Hp) (r : Res α) (k : α → En → Hp → Hp → Prop) : Prop :=
  match r with
  | .ok a ρ' => ∀ F' H', GoE K σ ρ F H ρ' F' H' → k a ρ' F' H'
  | .exc c ρ' => ∀ F' H', GoE K σ ρ F H ρ' F' H' → W c σ ρ' F' H'
  | .bad => False
theorem Post.split {α β : Type} {K : PySem.W.Frag} {W : XW} {σ : St} {ρ : En} {F H : Hp} {m : En → Res α} {k : α → En → Res β} {Z : β → En → Hp → Hp → Prop} (h : Post K W σ ρ F H (bnd m k ρ) Z) :
    Post K W σ ρ F H (m ρ) fun a ρ1 F1 H1 => Post K W σ ρ1 F1 H1 (k a ρ1) Z := by
  unfold bnd at h
  cases e : m ρ with
  | ok a ρ1 =>
    rw [e] at h
    intro F1 H1 g
    cases e2 : k a ρ1 with
    | ok b ρ2 => simp only [e2] at h; exact fun F2 H2 g2 => h F2 H2 (g.trans g2)
    | exc c ρ2 => simp only [e2] at h; exact fun F2 H2 g2 => h F2 H2 (g.trans g2)
    | bad => simp only [e2] at h; exact h
  | exc c ρ1 => rw [e] at h; exact h
  | bad => rw [e] at h; exact h
theorem Post.imp {α : Type} {K : PySem.W.Frag} {W : XW} {σ : St} {ρ : En} {F H : Hp} {r : Res α} {k k' : α → En → Hp → Hp → Prop} (h : Post K W σ ρ F H r k) (hk : ∀ a ρ' F' H', r = .ok a ρ' → GoE K σ ρ F H ρ' F' H' → k a ρ' F' H' → k' a ρ' F' H') : Post K W σ ρ F H r k' := by
  cases r with
  | ok a ρ1 => exact fun F1 H1 g => hk a ρ1 F1 H1 rfl g (h F1 H1 g)
  | exc c ρ1 => exact h
  | bad => exact h
structure DE (X : Cx) (W : XW) (e : Expr) (f : En → Res Op) : Prop where
  ex : ∃ t, PE X e t ∧ ∀ (σ : St) (F H : Hp) (ρ : En) (Q : VK), EnvR X.K F H σ ρ → Post X.K W σ ρ F H (f ρ) (fun o _ F' H' => ∀ v, OdR X.K H F' H' σ v o → Q v H') → t σ H Q
structure DT (X : Cx) (W : XW) (e : Expr) (f : En → Res Bool) : Prop where
  ex : ∃ t, PT X e t ∧ ∀ (σ : St) (F H : Hp) (ρ : En) (Q : Bool → Hp → Prop), EnvR X.K F H σ ρ → Post X.K W σ ρ F H (f ρ) (fun b _ _ H' => Q b H') → t σ H Q
structure DW (X : Cx) (W : XW) (e : Expr) (f : En → Res Bool) : Prop where
  ex : ∃ t, PW X e t ∧ ∀ (σ : St) (F H : Hp) (ρ : En) (Q : Bool → Hp → Prop), EnvR X.K F H σ ρ → Post X.K W σ ρ F H (f ρ) (fun b _ _ H' => Q b H') → t σ H Q

/-! ### names and constants -/
def sC (d : PyData) : En → Res Op := fun ρ => .ok (.v d) ρ
def sV (i : Nat) : En → Res Op := fun ρ => match ρ[i]? with
  | some (.val d) => .ok (.v d) ρ
  | some (.fix d) => .ok (.v d) ρ
  | some (.own _) => .ok (.pl i) ρ
  | some (.inn _) => .ok (.pl i) ρ
  | some (.bor _) => .ok (.pl i) ρ
  | _ => .bad
section
variable {X : Cx} {W : XW} {pos : Pos}
theorem de_c {e : Expr} {v : V} {d : PyData} (h : PE X e (tC v)) (r : ∀ K F, Rp K F v d) : DE X W e (sC d) :=
  ⟨_, h, fun σ F H ρ Q E hp => hp F H (.refl E) v (r _ _)⟩
theorem de_int {i : Int} {j : Nat} : DE X W (.Constant (.int i) j pos) (sC (.int i)) := de_c pe_int fun _ _ => .int i
theorem de_str {i : Str} {j : Nat} : DE X W (.Constant (.str i) j pos) (sC (.str i)) := de_c pe_str fun _ _ => .str i
theorem de_bool {i : Bool} {j : Nat} : DE X W (.Constant (.bool i) j pos) (sC (.bool i)) := de_c pe_bl fun _ _ => .bl i
theorem de_none {j : Nat} : DE X W (.Constant .none j pos) (sC .none) := de_c pe_non fun _ _ => .non
theorem de_var (i : Nat) {x : Str} (h : PE X (.Name x pos) (tVar i)) : DE X W (.Name x pos) (sV i) := by
  refine ⟨_, h, fun σ F H ρ Q E hp => ?_⟩
  unfold sV at hp
  cases q : ρ[i]? with
  | none => rw [q] at hp; exact hp.elim
  | some s =>
    rw [q] at hp
    obtain ⟨o, h1, h2⟩ := E.sl i s q
    cases s with
    | no => exact hp.elim
    | val d => obtain ⟨v, rfl, r⟩ := h2; exact ⟨v, h1, hp F H (.refl E) v r⟩
    | fix d => obtain ⟨v, rfl, r⟩ := h2; exact ⟨v, h1, hp F H (.refl E) v r⟩
    | own d => obtain ⟨a, rfl, r⟩ := h2; exact ⟨_, h1, hp F H (.refl E) _ h1⟩
    | inn d => obtain ⟨a, rfl, r⟩ := h2; exact ⟨_, h1, hp F H (.refl E) _ h1⟩
    | bor d => obtain ⟨a, rfl, r⟩ := h2; exact ⟨_, h1, hp F H (.refl E) _ h1⟩

/-! ### operations on data -/
/-- what an operation by values gives -/
def Gives (K : PySem.W.Frag) (F H : Hp) (o : Op) (Q : VK) : Prop := ∀ v F' H', Evo (fun a => H a = none) F H F' H' → Same F' H' → OdR K H F' H' [] v o → Q v H'
def P1 (K : PySem.W.Frag) (r : V → Hp → VK → Prop) (p : PyData → Option Op) : Prop := ∀ F H x d o Q, Same F H → Rd1 K F H x d → p d = some o → Gives K F H o Q → r x H Q
def P2 (K : PySem.W.Frag) (r : R2) (p : PyData → PyData → Option Op) : Prop := ∀ F H x y d e o Q, Same F H → Rd1 K F H x d → Rd1 K F H y e → p d e = some o → Gives K F H o Q → r x y H Q
/-- all of them read -/
def Rds (K : PySem.W.Frag) (F H : Hp) : List V → List PyData → Prop
  | [], [] => True
  | v :: vs, d :: ds => Rd1 K F H v d ∧ Rds K F H vs ds
  | _, _ => False
def PN (K : PySem.W.Frag) (r : List V → Hp → VK → Prop) (p : List PyData → Option Op) : Prop := ∀ F H xs ds o Q, Same F H → Rds K F H xs ds → p ds = some o → Gives K F H o Q → r xs H Q
def opt (o : Option Op) : En → Res Op := fun ρ => match o with
  | some o => .ok o ρ
  | none => .bad
def rdd (o : Op) : En → Res PyData := fun ρ => match rd ρ o with
  | some d => .ok d ρ
  | none => .bad
def sP1 (p : PyData → Option Op) (f : En → Res Op) : En → Res Op := bnd f fun o => bnd (rdd o) fun d => opt (p d)
def sP2 (p : PyData → PyData → Option Op) (f g : En → Res Op) : En → Res Op := bnd f fun o1 => bnd g fun o2 => bnd (rdd o1) fun d => bnd (rdd o2) fun e => opt (p d e)
theorem odr_nil {K : PySem.W.Frag} {H0 F H : Hp} {σ : St} {v : V} {o : Op} (h : OdR K H0 F H [] v o) : OdR K H0 F H σ v o := by
  cases o with
  | v d => exact h
  | fr d => exact h
  | pl i => have h : ([] : St)[i]? = some (some v) := h; cases h
theorem post_rdd {K : PySem.W.Frag} {W : XW} {β : Type} {σ : St} {ρ : En} {F H : Hp} {o : Op} {k : PyData → En → Res β} {Z : β → En → Hp → Hp → Prop} (E : EnvR K F H σ ρ) (h : Post K W σ ρ F H (bnd (rdd o) k ρ) Z) : ∃ d, rd ρ o = some d ∧ Post K W σ ρ F H (k d ρ) Z := by
  unfold bnd rdd at h
  cases e : rd ρ o with
  | none => simp only [e] at h; exact h.elim
  | some d => simp only [e] at h; exact ⟨d, rfl, h⟩
theorem post_opt {K : PySem.W.Frag} {W : XW} {σ : St} {ρ : En} {F H H0 : Hp} {o : Option Op} {Q : VK} (E : EnvR K F H σ ρ) (hd : ∀ a o, H0 a = some o → ∃ o', H a = some o') (h : Post K W σ ρ F H (opt o ρ) (fun o _ F' H' => ∀ v, OdR K H0 F' H' σ v o → Q v H')) : ∃ p, o = some p ∧ Gives K F H p Q := by
  cases o with
  | none => exact h.elim
  | some p =>
    refine ⟨p, rfl, fun v F' H' e le r => ?_⟩
    have h : ∀ F' H', GoE K σ ρ F H ρ F' H' → ∀ v, OdR K H0 F' H' σ v p → Q v H' := h
    refine h F' H' (GoE.news E e le) v ?_
    have r2 := odr_nil (σ := σ) r
    cases p with
    | v d => exact r2
    | fr d => obtain ⟨a, e1, n, ob⟩ := r2; exact ⟨a, e1, none_of_dom hd n, ob⟩
    | pl i => exact r2
variable {a b : Expr} {f g : En → Res Op}
theorem de_1 {r : V → Hp → VK → Prop} {p : PyData → Option Op} {e : Expr} (hp : P1 X.K r p) (mk : ∀ ta, PE X a ta → PE X e (tUn r ta)) (ha : DE X W a f) : DE X W e (sP1 p f) := by
  obtain ⟨ta, pa, sa⟩ := ha.ex
  refine ⟨_, mk ta pa, fun σ F H ρ Q E h => sa σ F H ρ _ E (h.split.imp fun o1 ρ1 F1 H1 _ g1 h1 v1 r1 => ?_)⟩
  obtain ⟨d, e1, h2⟩ := post_rdd g1.env h1
  obtain ⟨o, e3, gv⟩ := post_opt g1.env g1.go.evo.dom h2
  exact hp F1 H1 v1 d o Q g1.env.le (r1.rd1 g1.env e1) e3 gv
theorem de_2 {r : R2} {p : PyData → PyData → Option Op} {e : Expr} (hp : P2 X.K r p) (mk : ∀ ta tb, PE X a ta → PE X b tb → PE X e (tOp r ta tb)) (ha : DE X W a f) (hb : DE X W b g) : DE X W e (sP2 p f g) := by
  obtain ⟨ta, pa, sa⟩ := ha.ex
  obtain ⟨tb, pb, sb⟩ := hb.ex
  refine ⟨_, mk ta tb pa pb, fun σ F H ρ Q E h => sa σ F H ρ _ E (h.split.imp fun o1 ρ1 F1 H1 _ g1 h1 v1 r1 => ?_)⟩
  refine sb σ F1 H1 ρ1 _ g1.env (h1.split.imp fun o2 ρ2 F2 H2 _ g2 h2 v2 r2 => ?_)
  obtain ⟨d, e1, h3⟩ := post_rdd g2.env h2
  obtain ⟨e', e2, h4⟩ := post_rdd g2.env h3
  obtain ⟨o, e3, gv⟩ := post_opt g2.env (g1.trans g2).go.evo.dom h4
  exact hp F2 H2 v1 v2 d e' o Q g2.env.le ((r1.go E g1 g2).rd1 g2.env e1) ((r2.early g1.go.evo.dom).rd1 g2.env e2) e3 gv
theorem de_op {op : Operator} {r : R2} {p : PyData → PyData → Option Op} (ho : OpR X (binaryOp op) r) (hp : P2 X.K r p) (ha : DE X W a f) (hb : DE X W b g) : DE X W (.BinOp a op b pos) (sP2 p f g) :=
  de_2 hp (fun _ _ pa pb => pe_op ho pa pb) ha hb
theorem de_cmp {op : CmpOp} {r : R2} {p : PyData → PyData → Option Op} (ho : OpR X (compareOp op) r) (hp : P2 X.K r p) (ha : DE X W a f) (hb : DE X W b g) (hm : behindInMarks op b = false) : DE X W (.Compare a [op] [b] pos) (sP2 p f g) :=
  de_2 hp (fun _ _ pa pb => pe_cmpR ho pa pb hm) ha hb
theorem de_ix {r : R2} {p : PyData → PyData → Option Op} (ho : IxR X r) (hp : P2 X.K r p) (ha : DE X W a f) (hb : DE X W b g) (hm : PlainIx b) : DE X W (.Subscript a b pos) (sP2 p f g) :=
  de_2 hp (fun _ _ pa pb => pe_ix ho pa pb hm) ha hb
theorem de_un {op : UnaryOp} {r : V → Hp → VK → Prop} {p : PyData → Option Op} (ho : UnR X (unaryOp op) r) (hp : P1 X.K r p) (ha : DE X W a f) : DE X W (.UnaryOp op a pos) (sP1 p f) :=
  de_1 hp (fun _ pa => pe_un ho pa) ha

/-! ### the operations -/
theorem gives_v {K : PySem.W.Frag} {F H : Hp} {d : PyData} {Q : VK} (le : Same F H) {v : V} (r : Rp K F v d) (h : Gives K F H (.v d) Q) : Q v H := h v F H .refl le r
/-- a new tuple -/
theorem gives_tup {K : PySem.W.Frag} {F H : Hp} {ds : List PyData} {vs : List V} {Q : VK} (le : Same F H) (r : RpL K F vs ds) (h : Gives K F H (.v (.tuple ds)) Q) : NwT H vs Q := fun p ob hp hd => by
  have hF : F p = none := le.free hp
  have sF : Same F (upd F p (.frz ob (.tup vs))) := fun a o q => by rw [upd_ne (ne_of_none q hF)]; exact q
  refine h (.ref p) (upd F p (.frz ob (.tup vs))) _ ⟨sF, fun a o q n => ?_, fun a o q n => ?_, fun a o q => ?_⟩ (fun a o q => ?_) (.tup (sqP_frz upd_same hd) (r.mono sF))
  · rw [upd_ne (ne_of_none q hp)]; exact q
  · rw [upd_ne (ne_of_none q hp)]
  · rw [upd_ne (ne_of_none q hp)]; exact ⟨o, q⟩
  · by_cases e : a = p
    · subst e; rw [upd_same] at q; rw [upd_same]; exact q
    · rw [upd_ne e] at q; rw [upd_ne e]; exact le _ _ q
/-- a new list -/
theorem gives_lst {K : PySem.W.Frag} {F H : Hp} {ds : List PyData} {vs : List V} {Q : VK} {p : Addr} (le : Same F H) (r : RpL K F vs ds) (hp : H p = none) (h : Gives K F H (.fr (.list ds)) Q) : Q (.ref p) (upd H p (.lst vs)) := by
  have hF : F p = none := le.free hp
  refine h (.ref p) F _ ⟨Same.refl _, fun a o q n => ?_, fun a o q n => rfl, fun a o q => ?_⟩ (fun a o q => ?_) ⟨p, rfl, hp, vs, upd_same, hF, r⟩
  · rw [upd_ne (ne_of_none q hp)]; exact q
  · rw [upd_ne (ne_of_none q hp)]; exact ⟨o, q⟩
  · rw [upd_ne (ne_of_none (le _ _ q) hp)]; exact le _ _ q
theorem P2.or {K : PySem.W.Frag} {r r' : R2} {p p' : PyData → PyData → Option Op} (h : P2 K r p) (h' : P2 K r' p') : P2 K (fun x y H Q => r x y H Q ∨ r' x y H Q) (fun a b => match p a b with | some o => some o | none => p' a b) := by
  intro F H x y d e o Q le rx ry ho g
  cases q : p d e with
  | some o' => simp only [q] at ho; cases ho; exact .inl (h F H x y d e _ Q le rx ry q g)
  | none => simp only [q] at ho; exact .inr (h' F H x y d e o Q le rx ry ho g)
/-- an operation on ints -/
def pI (c : Int → Int → Bool) (g : Int → Int → Int) : PyData → PyData → Option Op
  | .int i, .int j => if c i j = true then some (.v (.int (g i j))) else none
  | _, _ => none
def pI0 (g : Int → Int → Int) : PyData → PyData → Option Op
  | .int i, .int j => some (.v (.int (g i j)))
  | _, _ => none
def pB0 (g : Int → Int → Bool) : PyData → PyData → Option Op
  | .int i, .int j => some (.v (.bool (g i j)))
  | _, _ => none
theorem rd1_int {K : PySem.W.Frag} {F H : Hp} {x : V} {i : Int} (h : Rd1 K F H x (.int i)) : x = .int i := by cases h; rfl
theorem rd1_str {K : PySem.W.Frag} {F H : Hp} {x : V} {i : Str} (h : Rd1 K F H x (.str i)) : x = .str i := by cases h; rfl
theorem rd1_bool {K : PySem.W.Frag} {F H : Hp} {x : V} {i : Bool} (h : Rd1 K F H x (.bool i)) : x = .bl i := by cases h; rfl
theorem p2_I {K : PySem.W.Frag} {C : Int → Int → Prop} {c : Int → Int → Bool} {g : Int → Int → Int} (hc : ∀ i j, c i j = true → C i j) : P2 K (rI C fun i j => .int (g i j)) (pI c g) := by
  intro F H x y d e o Q le rx ry ho q
  unfold pI at ho
  split at ho
  · rename_i i j
    split at ho
    · rename_i h
      cases ho
      rw [rd1_int rx, rd1_int ry]
      exact ⟨i, j, rfl, rfl, hc i j h, gives_v le (.int _) q⟩
    · cases ho
  · cases ho
theorem p2_I0 {K : PySem.W.Frag} {g : Int → Int → Int} : P2 K (rI0 fun i j => .int (g i j)) (pI0 g) := by
  intro F H x y d e o Q le rx ry ho q
  unfold pI0 at ho
  split at ho
  · rename_i i j
    cases ho
    rw [rd1_int rx, rd1_int ry]
    exact ⟨i, j, rfl, rfl, gives_v le (.int _) q⟩
  · cases ho
theorem p2_B0 {K : PySem.W.Frag} {g : Int → Int → Bool} : P2 K (rI0 fun i j => .bl (g i j)) (pB0 g) := by
  intro F H x y d e o Q le rx ry ho q
  unfold pB0 at ho
  split at ho
  · rename_i i j
    cases ho
    rw [rd1_int rx, rd1_int ry]
    exact ⟨i, j, rfl, rfl, gives_v le (.bl _) q⟩
  · cases ho
end
end Py
end L2

namespace L2
namespace Py
open PySem PySem.Spec PyProof.Rows

/-! ### from data to the model's own reading -/
section
variable {X : Cx} {pins : List (Addr × Obj)} {σ : St} {H : Hp} {s : Shared}
mutual
theorem Rp.reads (I : Inv X pins σ H s) : ∀ (d : PyData) (v : V) (u : Value), Rp X.K H v d → RelV v u → ∃ as, Reads s.heap u d as
  | .none, _, _, h, r => by
    cases h
    cases r
    exact ⟨_, Reads.none⟩
  | .bool b, _, _, h, r => by
    cases h
    cases r
    exact ⟨_, Reads.bool b⟩
  | .int i, _, _, h, r => by
    cases h
    obtain ⟨t, rfl⟩ := r
    exact ⟨_, Reads.int i t⟩
  | .str x, _, _, h, r => by
    cases h
    obtain ⟨t, rfl⟩ := r
    exact ⟨_, Reads.str x t⟩
  | .list ds, _, _, h, r => by
    cases h with
    | lst hs ha =>
      cases r
      obtain ⟨its, rv, ⟨o, n, ho, hc, _, hd⟩, _⟩ := I.list hs
      obtain ⟨as, hr⟩ := RpL.reads I ds _ its ha rv
      exact ⟨_, Reads.list ho hc hd hr⟩
  | .tuple ds, _, _, h, r => by
    cases h with
    | tup hs ha =>
      cases r
      obtain ⟨its, rv, ⟨o, ho, hc, n, hd⟩, _⟩ := I.tuple hs.sq
      obtain ⟨as, hr⟩ := RpL.reads I ds _ its ha rv
      exact ⟨_, Reads.tuple ho hc hd hr⟩
  | .dict kvs, _, _, h, r => by
    cases h with
    | dic hs t =>
      cases r
      obtain ⟨_, _, vs, kv, hd⟩ := dk_rd I.hok hs
      obtain ⟨bs, pr⟩ := RpK.reads I _ _ vs t kv
      exact ⟨_, PyProof.V.reads_dictOf (enc := keyD) (fun k key hk => by
        rcases keyIs_shape hk with ⟨i, t, rfl, rfl⟩ | ⟨x, t, rfl, rfl⟩
        · exact Reads.int i t
        · exact Reads.str x t) hd pr⟩
    | @dicN a xs _ hs t =>
      cases r
      obtain ⟨_, _, ys, kt, o, es, ep, ho, hx, hdat, he, _⟩ := nd_ok (show ObjOk X.prog X.w H s.heap a (ND a xs) from hs.ok I.hok)
      obtain ⟨as, bs, r1, r2⟩ := RpN.reads I _ _ ys t kt
      have e1 : es.toList.map (·.key) = ys.map fun y => Value.ref y.2.1 := by rw [he X.w, List.map_map]; rfl
      have e2 : es.toList.map (·.val) = ys.map fun y => y.2.2 := by rw [he X.w, List.map_map]; rfl
      exact ⟨_, Reads.dict ho hx.1 hdat (by rw [e1]; exact r1) (by rw [e2]; exact r2)⟩
theorem RpL.reads (I : Inv X pins σ H s) : ∀ (ds : List PyData) (vs : List V) (us : List Value), RpL X.K H vs ds → Vals vs us → ∃ as, ReadsAll s.heap us ds as
  | [], _, _, h, r => by
    cases h
    cases r
    exact ⟨_, ReadsAll.nil⟩
  | d :: ds, _, _, h, r => by
    cases h with
    | cons h1 h2 =>
      cases r with
      | cons r1 r2 =>
        obtain ⟨as, q1⟩ := Rp.reads I d _ _ h1 r1
        obtain ⟨bs, q2⟩ := RpL.reads I ds _ _ h2 r2
        exact ⟨_, ReadsAll.cons q1 q2⟩
theorem RpK.reads (I : Inv X pins σ H s) : ∀ (ds : List (PyData × PyData)) (kvs : List (Key × V)) (vs : List (Key × Value)), RpK X.K H kvs ds → KV kvs vs → ∃ bs, PyProof.V.PairsRead s.heap keyD vs ds bs
  | [], _, _, h, r => by
    cases h
    cases r
    exact ⟨_, .nil⟩
  | (kd, d) :: ds, _, _, h, r => by
    cases h with
    | cons h1 h2 =>
      cases r with
      | @cons _ q _ qs r1 r2 =>
        obtain ⟨k', v'⟩ := q
        obtain ⟨e1, r1⟩ := r1
        dsimp only at e1 r1
        subst e1
        obtain ⟨as, q1⟩ := Rp.reads I d _ _ h1 r1
        obtain ⟨bs, q2⟩ := RpK.reads I ds _ _ h2 r2
        exact ⟨_, .cons q1 q2⟩
theorem RpN.reads (I : Inv X pins σ H s) : ∀ (ds : List (PyData × PyData)) (kvs : List (NestedKey × Addr × V)) (ys : List NE), RpN X.K H kvs ds → KTN kvs ys → ∃ as bs, ReadsAll s.heap (ys.map fun y => Value.ref y.2.1) (ds.map (·.1)) as ∧ ReadsAll s.heap (ys.map fun y => y.2.2) (ds.map (·.2)) bs
  | [], _, _, h, r => by
    cases h
    cases r
    exact ⟨_, _, .nil, .nil⟩
  | (kd, d) :: ds, _, _, h, r => by
    cases h with
    | cons h0 h1 h2 h3 =>
      cases r with
      | @cons _ q _ qs r1 r2 =>
        obtain ⟨k', b', v'⟩ := q
        obtain ⟨e1, e2, r1⟩ := r1
        dsimp only at e1 e2 r1
        subst e1 e2
        obtain ⟨as1, q1⟩ := Rp.reads I kd _ (.ref _) h1 rfl
        obtain ⟨bs1, q2⟩ := Rp.reads I d _ _ h2 r1
        obtain ⟨as, bs, q3, q4⟩ := RpN.reads I ds _ _ h3 r2
        exact ⟨_, _, .cons q1 q3, .cons q2 q4⟩
end
end
theorem rd1_list {K : PySem.W.Frag} {F H : Hp} {x : V} {ds : List PyData} (h : Rd1 K F H x (.list ds)) : ∃ a xs, x = .ref a ∧ SqL K H a xs ∧ RpL K F xs ds := h
theorem rd1_tup {K : PySem.W.Frag} {F H : Hp} {x : V} {ds : List PyData} (h : Rd1 K F H x (.tuple ds)) : ∃ a xs, x = .ref a ∧ SqP K F a xs ∧ RpL K F xs ds := h

section
variable {X : Cx}
/-! ### a + b -/
def rCatS (K : PySem.W.Frag) : R2 := fun x y H Q => ∃ l b xs zs, x = .ref l ∧ y = .ref b ∧ SqL K H l xs ∧ SqL K H b zs ∧ xs.length + zs.length ≤ sizeLine ∧ ∀ p, H p = none → Q (.ref p) (upd H p (.lst (xs ++ zs)))
theorem op_catS : OpR X (binaryOp .Add) (rCatS X.K) := by
  intro pins s σ H x y v u Q I rx ry h
  obtain ⟨l, b, xs, zs, rfl, rfl, hH, hB, hz, q⟩ := h
  cases rx
  cases ry
  obtain ⟨its, r, ⟨o, n, e, c, dn, d⟩, _⟩ := I.list hH
  obtain ⟨its2, r2, ⟨o2, n2, e2, c2, dn2, d2⟩, _⟩ := I.list hB
  have hl := r.length
  have hl2 := r2.length
  obtain ⟨oc, od, odt, osl⟩ := o
  obtain ⟨oc2, od2, odt2, osl2⟩ := o2
  dsimp only at c d c2 d2
  subst c d c2 d2
  have ea : its.toArray ++ its2.toArray = (its ++ its2).toArray := by simp
  refine concat_meets ⟨_, e, rfl⟩ ⟨_, e2, rfl⟩ noFill_list_add seq_list_add PySem.F.slot_list_add PySem.F.entry_list_add (PySem.F.args_list_add_2 _ _) (list_addW l b its.toArray its2.toArray n n2 od od2 osl osl2 (by rw [List.size_toArray, List.size_toArray]; omega)) ⟨e, e2, ?_⟩
  rw [ea]
  exact ⟨.ref _, _, I.lnew (t' := s.toks) (r.append r2) (by rw [List.length_append]; omega), rfl, q _ I.fresh⟩
def rAdd4 (K : PySem.W.Frag) : R2 := fun x y H Q => (rI0 (fun i j => .int (i + j))) x y H Q ∨ (∃ i j, x = .str i ∧ y = .str j ∧ i.length + j.length ≤ sizeLine ∧ Q (.str (i ++ j)) H) ∨ rCatS K x y H Q ∨ rCatP K x y H Q
theorem op_add4 : OpR X (binaryOp .Add) (rAdd4 X.K) := op_add.or (op_add_str.or (op_catS.or op_catP))
def pAdd : PyData → PyData → Option Op
  | .int i, .int j => some (.v (.int (i + j)))
  | .str a, .str b => if a.length + b.length ≤ sizeLine then some (.v (.str (a ++ b))) else none
  | .list xs, .list ys => if xs.length + ys.length ≤ sizeLine then some (.fr (.list (xs ++ ys))) else none
  | .tuple xs, .tuple ys => if xs.length + ys.length ≤ sizeLine then some (.v (.tuple (xs ++ ys))) else none
  | _, _ => none
theorem p2_add {K : PySem.W.Frag} : P2 K (rAdd4 K) pAdd := by
  intro F H x y d e o Q le rx ry ho q
  unfold pAdd at ho
  split at ho
  · cases ho
    rw [rd1_int rx, rd1_int ry]
    exact .inl ⟨_, _, rfl, rfl, gives_v le (.int _) q⟩
  · split at ho
    · rename_i h
      cases ho
      rw [rd1_str rx, rd1_str ry]
      exact .inr (.inl ⟨_, _, rfl, rfl, h, gives_v le (.str _) q⟩)
    · cases ho
  · split at ho
    · rename_i h
      cases ho
      obtain ⟨a, xs, rfl, h1, r1⟩ := rx
      obtain ⟨b, ys, rfl, h2, r2⟩ := ry
      exact .inr (.inr (.inl ⟨a, b, xs, ys, rfl, rfl, h1, h2, by rw [r1.length, r2.length]; exact h, fun p hp => gives_lst le (r1.append r2) hp q⟩))
    · cases ho
  · split at ho
    · rename_i h
      cases ho
      obtain ⟨a, xs, rfl, h1, r1⟩ := rx
      obtain ⟨b, ys, rfl, h2, r2⟩ := ry
      refine .inr (.inr (.inr ⟨a, b, xs, ys, rfl, rfl, same_sqT le h1.sq, same_sqT le h2.sq, by rw [r1.length, r2.length]; exact h, fun e => ?_, fun _ e => ?_, fun _ _ => gives_tup le (r1.append r2) q⟩))
      · subst e
        cases r1
        exact gives_v le (.tup h2 r2) q
      · subst e
        cases r2
        rw [List.append_nil] at q
        exact gives_v le (.tup h1 r1) q
    · cases ho
  · cases ho
/-! ### == and != -/
def okD (d e : PyData) : Bool := d.plain && e.plain && decide (min d.depth e.depth ≤ 64)
def rEqP (K : PySem.W.Frag) : R2 := fun x y H Q => ∃ d e, Rp K H x d ∧ Rp K H y e ∧ okD d e = true ∧ Q (.bl (PyData.eqv d e)) H
def rNeP (K : PySem.W.Frag) : R2 := fun x y H Q => ∃ d e, Rp K H x d ∧ Rp K H y e ∧ okD d e = true ∧ Q (.bl (!PyData.eqv d e)) H
theorem okD_iff {d e : PyData} (h : okD d e = true) : d.plain = true ∧ e.plain = true ∧ min d.depth e.depth ≤ 64 := by
  unfold okD at h
  simp only [Bool.and_eq_true, decide_eq_true_eq] at h
  exact ⟨h.1.1, h.1.2, h.2⟩
theorem op_eqP (hu : X.A.units + 64 < cLine) : OpR X (compareOp .Eq) (rEqP X.K) := by
  intro pins s σ H x y v u Q I rx ry h
  obtain ⟨d, e, hd, he, ok, q⟩ := h
  obtain ⟨k1, k2, k3⟩ := okD_iff ok
  obtain ⟨as, r1⟩ := Rp.reads I d x v hd rx
  obtain ⟨bs, r2⟩ := Rp.reads I e y u he ry
  exact SeqAt.eq_plain r1 r2 k1 k2 (by omega) ⟨.bl _, H, I, rfl, q⟩
theorem op_neP (hu : X.A.units + 64 < cLine) : OpR X (compareOp .NotEq) (rNeP X.K) := by
  intro pins s σ H x y v u Q I rx ry h
  obtain ⟨d, e, hd, he, ok, q⟩ := h
  obtain ⟨k1, k2, k3⟩ := okD_iff ok
  obtain ⟨as, r1⟩ := Rp.reads I d x v hd rx
  obtain ⟨bs, r2⟩ := Rp.reads I e y u he ry
  exact SeqAt.ne_plain r1 r2 k1 k2 (by omega) ⟨.bl _, H, I, rfl, q⟩
def pEq (d e : PyData) : Option Op := if okD d e = true then some (.v (.bool (PyData.eqv d e))) else none
def pNe (d e : PyData) : Option Op := if okD d e = true then some (.v (.bool (!PyData.eqv d e))) else none
theorem p2_eq {K : PySem.W.Frag} : P2 K (rEqP K) pEq := by
  intro F H x y d e o Q le rx ry ho q
  unfold pEq at ho
  split at ho
  · rename_i h
    cases ho
    exact ⟨d, e, rx.rp le, ry.rp le, h, gives_v le (.bl _) q⟩
  · cases ho
theorem p2_ne {K : PySem.W.Frag} : P2 K (rNeP K) pNe := by
  intro F H x y d e o Q le rx ry ho q
  unfold pNe at ho
  split at ho
  · rename_i h
    cases ho
    exact ⟨d, e, rx.rp le, ry.rp le, h, gives_v le (.bl _) q⟩
  · cases ho
/-! ### < <= > >= -/
open PySem.W in
def okL (d e : PyData) : Bool := alike d e && (match d with | .none => false | _ => true) && decide (min d.depth e.depth ≤ 64)
open PySem.W in
theorem okL_iff {d e : PyData} (h : okL d e = true) : alike d e = true ∧ d ≠ .none ∧ min d.depth e.depth ≤ 64 := by
  unfold okL at h
  simp only [Bool.and_eq_true, decide_eq_true_eq] at h
  refine ⟨h.1.1, fun z => ?_, h.2⟩
  subst z
  exact absurd h.1.2 (by simp)
open PySem.W in
def rCmpD (K : PySem.W.Frag) (g : PyData → PyData → Bool) : R2 := fun x y H Q => ∃ d e, Rp K H x d ∧ Rp K H y e ∧ okL d e = true ∧ Q (.bl (g d e)) H
open PySem.W in
theorem op_ltD (hu : X.A.units + 64 < cLine) : OpR X (compareOp .Lt) (rCmpD X.K dataLt) := by
  intro pins s σ H x y v u Q I rx ry h
  obtain ⟨d, e, hd, he, ok, q⟩ := h
  obtain ⟨k1, k2, k3⟩ := okL_iff ok
  obtain ⟨as, r1⟩ := Rp.reads I d x v hd rx
  obtain ⟨bs, r2⟩ := Rp.reads I e y u he ry
  exact lt_data r1 r2 k1 k2 (by omega) ⟨.bl _, H, I, rfl, q⟩
open PySem.W in
theorem op_gtD (hu : X.A.units + 64 < cLine) : OpR X (compareOp .Gt) (rCmpD X.K fun d e => dataLt e d) := by
  intro pins s σ H x y v u Q I rx ry h
  obtain ⟨d, e, hd, he, ok, q⟩ := h
  obtain ⟨k1, k2, k3⟩ := okL_iff ok
  obtain ⟨as, r1⟩ := Rp.reads I d x v hd rx
  obtain ⟨bs, r2⟩ := Rp.reads I e y u he ry
  exact gt_data r1 r2 k1 k2 (by omega) ⟨.bl _, H, I, rfl, q⟩
open PySem.W in
theorem op_leD (hu : X.A.units + 64 < cLine) : OpR X (compareOp .LtE) (rCmpD X.K fun d e => !dataLt e d) := by
  intro pins s σ H x y v u Q I rx ry h
  obtain ⟨d, e, hd, he, ok, q⟩ := h
  obtain ⟨k1, k2, k3⟩ := okL_iff ok
  obtain ⟨as, r1⟩ := Rp.reads I d x v hd rx
  obtain ⟨bs, r2⟩ := Rp.reads I e y u he ry
  exact le_data r1 r2 k1 k2 (by omega) ⟨.bl _, H, I, rfl, q⟩
open PySem.W in
theorem op_geD (hu : X.A.units + 64 < cLine) : OpR X (compareOp .GtE) (rCmpD X.K fun d e => !dataLt d e) := by
  intro pins s σ H x y v u Q I rx ry h
  obtain ⟨d, e, hd, he, ok, q⟩ := h
  obtain ⟨k1, k2, k3⟩ := okL_iff ok
  obtain ⟨as, r1⟩ := Rp.reads I d x v hd rx
  obtain ⟨bs, r2⟩ := Rp.reads I e y u he ry
  exact ge_data r1 r2 k1 k2 (by omega) ⟨.bl _, H, I, rfl, q⟩
/-- ints by the ints' own order, all else by the data's -/
def pCmp (p : Int → Int → Bool) (g : PyData → PyData → Bool) : PyData → PyData → Option Op
  | .int i, .int j => some (.v (.bool (p i j)))
  | d, e => if okL d e = true then some (.v (.bool (g d e))) else none
theorem p2_cmp {K : PySem.W.Frag} {p : Int → Int → Bool} {g : PyData → PyData → Bool} : P2 K (fun x y H Q => rI0 (fun i j => .bl (p i j)) x y H Q ∨ rCmpD K g x y H Q) (pCmp p g) := by
  intro F H x y d e o Q le rx ry ho q
  unfold pCmp at ho
  split at ho
  · cases ho
    rw [rd1_int rx, rd1_int ry]
    exact .inl ⟨_, _, rfl, rfl, gives_v le (.bl _) q⟩
  · split at ho
    · rename_i h
      cases ho
      exact .inr ⟨_, _, rx.rp le, ry.rp le, h, gives_v le (.bl _) q⟩
    · cases ho
open PySem.W in
abbrev pLt := pCmp (fun i j => decide (i < j)) dataLt
open PySem.W in
abbrev pLe := pCmp (fun i j => decide (i ≤ j)) fun d e => !dataLt e d
open PySem.W in
abbrev pGt := pCmp (fun i j => decide (j < i)) fun d e => dataLt e d
open PySem.W in
abbrev pGe := pCmp (fun i j => decide (j ≤ i)) fun d e => !dataLt d e
/-! ### in, not in -/
def okIn (xs : List PyData) (d : PyData) : Bool := PyData.plainAll xs && d.plain && decide (min (PyData.depthAll xs) d.depth ≤ 60)
theorem okIn_iff {xs : List PyData} {d : PyData} (h : okIn xs d = true) : PyData.plainAll xs = true ∧ d.plain = true ∧ min (PyData.depthAll xs) d.depth ≤ 60 := by
  unfold okIn at h
  simp only [Bool.and_eq_true, decide_eq_true_eq] at h
  exact ⟨h.1.1, h.1.2, h.2⟩
def rInD (K : PySem.W.Frag) (n : Bool → Bool) : R2 := fun x y H Q => ∃ d xs, Rp K H x d ∧ (Rp K H y (.list xs) ∨ Rp K H y (.tuple xs)) ∧ okIn xs d = true ∧ Q (.bl (n (xs.any fun z => PyData.eqv z d))) H
theorem op_inD (hu : X.A.units + 64 < cLine) : OpR X (compareOp .In) (rInD X.K id) := by
  intro pins s σ H x y v u Q I rx ry h
  obtain ⟨d, xs, hd, he, ok, q⟩ := h
  obtain ⟨k1, k2, k3⟩ := okIn_iff ok
  obtain ⟨as, r1⟩ := Rp.reads I d x v hd rx
  rcases he with he | he
  · obtain ⟨bs, r2⟩ := Rp.reads I _ y u he ry
    exact SeqAt.in_list_data r2 r1 k1 k2 (by omega) ⟨.bl _, H, I, rfl, q⟩
  · obtain ⟨bs, r2⟩ := Rp.reads I _ y u he ry
    exact SeqAt.in_tuple_data r2 r1 k1 k2 (by omega) ⟨.bl _, H, I, rfl, q⟩
theorem op_notInD (hu : X.A.units + 64 < cLine) : OpR X (compareOp .NotIn) (rInD X.K not) := by
  intro pins s σ H x y v u Q I rx ry h
  obtain ⟨d, xs, hd, he, ok, q⟩ := h
  obtain ⟨k1, k2, k3⟩ := okIn_iff ok
  obtain ⟨as, r1⟩ := Rp.reads I d x v hd rx
  rcases he with he | he
  · obtain ⟨bs, r2⟩ := Rp.reads I _ y u he ry
    exact SeqAt.notIn_list_data r2 r1 k1 k2 (by omega) ⟨.bl _, H, I, rfl, q⟩
  · obtain ⟨bs, r2⟩ := Rp.reads I _ y u he ry
    exact SeqAt.notIn_tuple_data r2 r1 k1 k2 (by omega) ⟨.bl _, H, I, rfl, q⟩
def pIn (n : Bool → Bool) : PyData → PyData → Option Op
  | .str i, .str j => some (.v (.bool (n (!(Builtin.Str.occurrences j i 0 j.length 1).isEmpty))))
  | d, .list xs => if okIn xs d = true then some (.v (.bool (n (xs.any fun z => PyData.eqv z d)))) else none
  | d, .tuple xs => if okIn xs d = true then some (.v (.bool (n (xs.any fun z => PyData.eqv z d)))) else none
  | _, _ => none
theorem p2_in {K : PySem.W.Frag} {n : Bool → Bool} : P2 K (fun x y H Q => (∃ i j, x = .str i ∧ y = .str j ∧ Q (.bl (n (!(Builtin.Str.occurrences j i 0 j.length 1).isEmpty))) H) ∨ rInD K n x y H Q) (pIn n) := by
  intro F H x y d e o Q le rx ry ho q
  unfold pIn at ho
  split at ho
  · cases ho
    rw [rd1_str rx, rd1_str ry]
    exact .inl ⟨_, _, rfl, rfl, gives_v le (.bl _) q⟩
  · split at ho
    · rename_i h
      cases ho
      exact .inr ⟨_, _, rx.rp le, .inl (ry.rp le), h, gives_v le (.bl _) q⟩
    · cases ho
  · split at ho
    · rename_i h
      cases ho
      exact .inr ⟨_, _, rx.rp le, .inr (ry.rp le), h, gives_v le (.bl _) q⟩
    · cases ho
  · cases ho
/-! ### x is None -/
def isN : PyData → Bool
  | .none => true
  | _ => false
theorem rd1_isN {K : PySem.W.Frag} {F H : Hp} {x : V} {d : PyData} (h : Rd1 K F H x d) : decide (x = .non) = isN d := by
  cases d with
  | none => cases h; rfl
  | bool b => cases h; rfl
  | int b => cases h; rfl
  | str b => cases h; rfl
  | list b => obtain ⟨a, xs, rfl, _⟩ := h; rfl
  | tuple b => obtain ⟨a, xs, rfl, _⟩ := h; rfl
  | dict b => rcases h with ⟨a, xs, rfl, _⟩ | ⟨a, xs, rfl, _⟩ <;> rfl
def pIs (n : Bool → Bool) : PyData → PyData → Option Op
  | d, .none => some (.v (.bool (n (isN d))))
  | _, _ => none
theorem p2_is {K : PySem.W.Frag} {n : Bool → Bool} : P2 K (fun x y H Q => y = .non ∧ Q (.bl (n (decide (x = .non)))) H) (pIs n) := by
  intro F H x y d e o Q le rx ry ho q
  unfold pIs at ho
  split at ho
  · cases ho
    rw [rd1_isN rx]
    cases ry
    exact ⟨rfl, gives_v le (.bl _) q⟩
  · cases ho
/-! ### x[i], x[i:j] -/
theorem atI_rp {K : PySem.W.Frag} {F : Hp} {xs : List V} {ds : List PyData} {i : Int} {d : PyData} (r : RpL K F xs ds) (h : atI ds i = some d) : ∃ v, atI xs i = some v ∧ Rp K F v d := by
  unfold atI at h ⊢
  rw [r.length]
  cases q : ixN ds.length i with
  | none => rw [q] at h; cases h
  | some j =>
    rw [q] at h
    exact r.get h
def pIx : PyData → PyData → Option Op
  | .list ds, .int i => (atI ds i).map .v
  | .tuple ds, .int i => (atI ds i).map .v
  | .str z, .int i => if z.length ≤ sizeLine then (atI z.cps.toList i).map fun c => .v (.str ⟨#[c]⟩) else none
  | _, _ => none
theorem p2_ix {K : PySem.W.Frag} : P2 K (rIx K) pIx := by
  intro F H x y d e o Q le rx ry ho q
  unfold pIx at ho
  split at ho
  · obtain ⟨a, xs, rfl, h1, r1⟩ := rx
    rw [rd1_int ry]
    rename_i ds i
    cases h : atI ds i with
    | none => rw [h] at ho; cases ho
    | some d =>
      rw [h] at ho
      cases ho
      obtain ⟨v, e, r⟩ := atI_rp r1 h
      exact .inl ⟨a, xs, i, v, rfl, rfl, h1, e, gives_v le r q⟩
  · obtain ⟨a, xs, rfl, h1, r1⟩ := rx
    rw [rd1_int ry]
    rename_i ds i
    cases h : atI ds i with
    | none => rw [h] at ho; cases ho
    | some d =>
      rw [h] at ho
      cases ho
      obtain ⟨v, e, r⟩ := atI_rp r1 h
      exact .inr (.inl ⟨a, xs, i, v, rfl, rfl, same_sqT le h1.sq, e, gives_v le r q⟩)
  · rw [rd1_str rx, rd1_int ry]
    rename_i z i
    split at ho
    · rename_i hz
      cases h : atI z.cps.toList i with
      | none => rw [h] at ho; cases ho
      | some d =>
        rw [h] at ho
        cases ho
        exact .inr (.inr ⟨z, i, d, rfl, rfl, hz, h, gives_v le (.str _) q⟩)
    · cases ho
  · cases ho
def cutD {α : Type} (xs : List α) (lo hi : Option Int) : List α := (xs.drop (HT.sIx xs.length 0 lo)).take (HT.sIx xs.length xs.length hi - HT.sIx xs.length 0 lo)
theorem cutD_rp {K : PySem.W.Frag} {F : Hp} {xs : List V} {ds : List PyData} (r : RpL K F xs ds) (lo hi : Option Int) : RpL K F (cutV xs lo hi) (cutD ds lo hi) := by
  unfold cutV cutD
  rw [r.length]
  exact (r.drop _).take _
def rSl4 (K : PySem.W.Frag) : V → Option Int → Option Int → Hp → VK → Prop := fun x lo hi H Q => rSlL K x lo hi H Q ∨ rSlP K x lo hi H Q ∨ rSlS x lo hi H Q
theorem sl_4 : SlR X (rSl4 X.K) := sl_list.or (sl_tupP.or sl_str)
def pSl : PyData → Option Int → Option Int → Option Op
  | .list ds, lo, hi => some (.fr (.list (cutD ds lo hi)))
  | .tuple ds, lo, hi => some (.v (.tuple (cutD ds lo hi)))
  | .str z, lo, hi => if z.length ≤ sizeLine then some (.v (.str (cutS z lo hi))) else none
  | _, _, _ => none
theorem sl_sound {K : PySem.W.Frag} {F H : Hp} {x : V} {d : PyData} {lo hi : Option Int} {o : Op} {Q : VK} (le : Same F H) (rx : Rd1 K F H x d) (ho : pSl d lo hi = some o) (q : Gives K F H o Q) : rSl4 K x lo hi H Q := by
  unfold pSl at ho
  split at ho
  · cases ho
    obtain ⟨a, xs, rfl, h1, r1⟩ := rx
    exact .inl ⟨a, xs, rfl, h1, fun p hp => gives_lst le (cutD_rp r1 _ _) hp q⟩
  · cases ho
    obtain ⟨a, xs, rfl, h1, r1⟩ := rx
    refine .inr (.inl ⟨a, xs, rfl, same_sqT le h1.sq, fun e => ?_, fun e => gives_tup le (cutD_rp r1 _ _) q⟩)
    rename_i ds
    have e2 : cutD ds lo hi = ds := by
      unfold cutD
      rw [← r1.length, e.1, e.2]
      simp [r1.length]
    rw [e2] at q
    exact gives_v le (.tup h1 r1) q
  · split at ho
    · rename_i hz
      cases ho
      rw [rd1_str rx]
      exact .inr (.inr ⟨_, rfl, hz, gives_v le (.str _) q⟩)
    · cases ho
  · cases ho
end
end Py
end L2

namespace L2
namespace Py
open PySem PySem.Spec PyProof.Rows

/-! ### several operands -/
/-- the values of those that are new things -/
def frV : List V → List Op → List V
  | v :: vs, .fr _ :: os => v :: frV vs os
  | _ :: vs, _ :: os => frV vs os
  | _, _ => []
def OdsA (K : PySem.W.Frag) (H0 F H : Hp) (σ : St) : List V → List Op → Prop
  | [], [] => True
  | v :: vs, o :: os => OdR K H0 F H σ v o ∧ OdsA K H0 F H σ vs os
  | _, _ => False
structure Ods (K : PySem.W.Frag) (H0 F H : Hp) (σ : St) (vs : List V) (os : List Op) : Prop where
  all : OdsA K H0 F H σ vs os
  nd : (frV vs os).Nodup
theorem OdsA.early {K : PySem.W.Frag} {H0 H1 F H : Hp} {σ : St} (dm : ∀ a o, H0 a = some o → ∃ o', H1 a = some o') : ∀ {vs : List V} {os : List Op}, OdsA K H1 F H σ vs os → OdsA K H0 F H σ vs os
  | [], [], _ => trivial
  | _ :: _, _ :: _, h => ⟨h.1.early dm, OdsA.early dm h.2⟩
theorem OdsA.len {K : PySem.W.Frag} {H0 F H : Hp} {σ : St} : ∀ {vs : List V} {os : List Op}, OdsA K H0 F H σ vs os → vs.length = os.length
  | [], [], _ => rfl
  | _ :: _, _ :: _, h => by rw [List.length_cons, List.length_cons, OdsA.len h.2]
theorem OdsA.new {K : PySem.W.Frag} {H0 F H : Hp} {σ : St} : ∀ {vs : List V} {os : List Op} {v : V}, OdsA K H0 F H σ vs os → v ∈ frV vs os → ∃ a, v = .ref a ∧ H0 a = none
  | [], [], _, _, m => by cases m
  | w :: _, o :: _, v, h, m => by
    cases o with
    | v d => exact OdsA.new h.2 m
    | pl i => exact OdsA.new h.2 m
    | fr d =>
      rcases List.mem_cons.mp m with e | m
      · subst e
        obtain ⟨a, e, n, _⟩ := h.1
        exact ⟨a, e, n⟩
      · exact OdsA.new h.2 m
structure DA (X : Cx) (W : XW) (es : List Expr) (f : En → Res (List Op)) : Prop where
  len : ∀ ρ os ρ', f ρ = .ok os ρ' → os.length = es.length
  ex : ∃ t, PA X es t ∧ ∀ (σ : St) (F H : Hp) (ρ : En) (Q : List V → Hp → Prop), EnvR X.K F H σ ρ → Post X.K W σ ρ F H (f ρ) (fun os _ F' H' => ∀ vs, Ods X.K H F' H' σ vs os → Q vs H') → t σ H Q
def sNil : En → Res (List Op) := fun ρ => .ok [] ρ
def sCons (f : En → Res Op) (g : En → Res (List Op)) : En → Res (List Op) := bnd f fun o => bnd g fun os ρ => .ok (o :: os) ρ
section
variable {X : Cx} {W : XW} {pos : Pos} {e : Expr} {es : List Expr} {f : En → Res Op} {g : En → Res (List Op)}
theorem da_nil : DA X W [] sNil := ⟨fun ρ os ρ' e => by cases e; rfl, _, pa_nil, fun σ F H ρ Q E h => h F H (.refl E) [] ⟨trivial, .nil⟩⟩
theorem da_cons (ha : DE X W e f) (hb : DA X W es g) (hs : starEach (e :: es) X.env = (false, eval e X.env) :: starEach es X.env := by rfl) : DA X W (e :: es) (sCons f g) := by
  obtain ⟨ta, pa, sa⟩ := ha.ex
  obtain ⟨tb, pb, sb⟩ := hb.ex
  refine ⟨fun ρ os ρ' h => ?_, _, pa_cons pa pb hs, fun σ F H ρ Q E h => sa σ F H ρ _ E (h.split.imp fun o1 ρ1 F1 H1 _ g1 h1 v1 r1 => ?_)⟩
  · unfold sCons bnd at h
    cases q : f ρ with
    | bad => simp only [q] at h; cases h
    | exc c r => simp only [q] at h; cases h
    | ok o ρ1 =>
      simp only [q] at h
      cases q2 : g ρ1 with
      | bad => simp only [bnd, q2] at h; cases h
      | exc c r => simp only [bnd, q2] at h; cases h
      | ok os2 ρ2 =>
        simp only [bnd, q2] at h
        cases h
        rw [List.length_cons, List.length_cons, hb.len _ _ _ q2]
  refine sb σ F1 H1 ρ1 _ g1.env (h1.split.imp fun os ρ2 F2 H2 _ g2 h2 vs rs => ?_)
  have h2 : ∀ F' H', GoE X.K σ ρ2 F2 H2 ρ2 F' H' → ∀ vs, Ods X.K H F' H' σ vs (o1 :: os) → Q vs H' := h2
  refine h2 F2 H2 (.refl g2.env) (v1 :: vs) ⟨⟨r1.go E g1 g2, rs.all.early g1.go.evo.dom⟩, ?_⟩
  cases o1 with
  | v d => exact rs.nd
  | pl i => exact rs.nd
  | fr d =>
    refine List.nodup_cons.mpr ⟨fun m => ?_, rs.nd⟩
    obtain ⟨a, e1, n1, ob⟩ := r1
    obtain ⟨b, e2, n2⟩ := rs.all.new m
    rw [e1] at e2
    cases e2
    obtain ⟨o, q⟩ := ob.there
    rw [n2] at q; cases q
end

/-! ### making fast -/
def fz : Op → En → Res PyData
  | .v d, ρ => .ok d ρ
  | .fr d, ρ => .ok d ρ
  | .pl i, ρ => match ρ[i]? with
    | some (.own d) => .ok d (ρ.set i (.val d))
    | some (.inn d) => .ok d (ρ.set i (.fix d))
    | some (.val d) => .ok d ρ
    | some (.fix d) => .ok d ρ
    | _ => .bad
def fzs : List Op → En → Res (List PyData)
  | [], ρ => .ok [] ρ
  | o :: os, ρ => bnd (fz o) (fun d => bnd (fzs os) fun ds ρ' => .ok (d :: ds) ρ') ρ
section
variable {K : PySem.W.Frag} {σ : St} {ρ0 ρ ρ' : En} {F0 H0 F H : Hp}
theorem set_self {α : Type} {l : List α} {i : Nat} {x s : α} (h : l[i]? = some s) : (l.set i x)[i]? = some x := by
  have := (List.getElem?_eq_some_iff.mp h).1
  rw [List.getElem?_set_self this]
theorem same_upd' {F H : Hp} {a : Addr} {o : HO} (hF : F a = none) : Same F (upd F a o) := fun b o' h => by
  rw [upd_ne (ne_of_none h hF)]
  exact h
/-- the thing of slot i (own or lent) is made fast -/
theorem goFast {i : Nat} {s s' : Sl} {ds : PyData} (E : EnvR K F H σ ρ) (hi : ρ[i]? = some s) (hs : (s = .own ds ∧ s' = .val ds) ∨ (s = .inn ds ∧ s' = .fix ds)) :
    ∃ a xs, σ[i]? = some (some (.ref a)) ∧ F a = none ∧ H a = some xs ∧ GoE K σ ρ F H (ρ.set i s') (upd F a xs) H ∧ Rp K (upd F a xs) (.ref a) ds := by
  have hmut : s.mut = true := by rcases hs with ⟨rfl, _⟩ | ⟨rfl, _⟩ <;> rfl
  have hOb : ∃ a, σ[i]? = some (some (.ref a)) ∧ Ob K F H a ds := by
    obtain ⟨o, h1, h2⟩ := E.sl i s hi
    rcases hs with ⟨rfl, _⟩ | ⟨rfl, _⟩
    · obtain ⟨a, rfl, ob⟩ := h2; exact ⟨a, h1, ob⟩
    · obtain ⟨a, rfl, ob⟩ := h2; exact ⟨a, h1, ob⟩
  obtain ⟨a, h1, ob⟩ := hOb
  obtain ⟨xs, hH, hF, rp⟩ := ob.fast
  have sF : Same F (upd F a xs) := same_upd' (H := H) hF
  have hA : ownA σ ρ a := by
    rcases hs with ⟨rfl, _⟩ | ⟨rfl, _⟩
    · exact .inl ⟨i, _, hi, h1⟩
    · exact .inr ⟨i, _, hi, h1⟩
  have ev : Evo (fun b => b = a) F H (upd F a xs) H := ⟨sF, fun b o q _ => q, fun b o q n => upd_ne n, fun b o q => ⟨o, q⟩⟩
  have get : ∀ (j : Nat) (t : Sl), (ρ.set i s')[j]? = some t → (j = i ∧ t = s') ∨ (j ≠ i ∧ ρ[j]? = some t) := fun j t q => by
    by_cases e : j = i
    · subst e; rw [set_self hi] at q; exact .inl ⟨rfl, (Option.some.inj q).symm⟩
    · rw [List.getElem?_set_ne (Ne.symm e)] at q; exact .inr ⟨e, q⟩
  have put : ∀ (j : Nat) (t : Sl), j ≠ i → ρ[j]? = some t → (ρ.set i s')[j]? = some t := fun j t e q => by
    rw [List.getElem?_set_ne (Ne.symm e)]; exact q
  have np : s'.plc = false ∧ (∃ d, s' = .val d ∨ s' = .fix d) := by rcases hs with ⟨_, rfl⟩ | ⟨_, rfl⟩; exact ⟨rfl, _, .inl rfl⟩; exact ⟨rfl, _, .inr rfl⟩
  refine ⟨a, xs, h1, hF, hH, ⟨⟨ev.weak fun b e => by rw [e]; exact hA, ⟨by rw [List.length_set]; exact E.len, fun b o q => ?_, fun j t q => ?_, fun j k s1 t1 b hjk q1 q2 m1 m2 z1 z2 => ?_⟩, fun b z => ?_, fun j d q => ?_, fun j d q => ?_, fun j d q => ?_, fun j d q => ?_, fun j d q => ?_, List.length_set⟩, fun j d q => ?_⟩, rp⟩
  · by_cases e : b = a
    · subst e; rw [upd_same] at q; rw [hH]; exact q
    · rw [upd_ne e] at q; exact E.le _ _ q
  · rcases get j t q with ⟨rfl, rfl⟩ | ⟨ne, q⟩
    · refine ⟨_, h1, ?_⟩
      rcases hs with ⟨_, rfl⟩ | ⟨_, rfl⟩
      · exact ⟨_, rfl, rp⟩
      · exact ⟨_, rfl, rp⟩
    · obtain ⟨o, e1, e2⟩ := E.sl j t q
      refine ⟨o, e1, ?_⟩
      have nea : ∀ b, t.plc = true → o = some (.ref b) → b ≠ a := fun b p e z => by
        subst e; subst z
        exact E.inj i j s t b (Ne.symm ne) hi q hmut p h1 e1
      cases t with
      | no => trivial
      | val d => obtain ⟨v, e3, r⟩ := e2; exact ⟨v, e3, r.mono sF⟩
      | fix d => obtain ⟨v, e3, r⟩ := e2; exact ⟨v, e3, r.mono sF⟩
      | own d => obtain ⟨b, e3, r⟩ := e2; exact ⟨b, e3, r.evo ev (nea b rfl e3)⟩
      | inn d => obtain ⟨b, e3, r⟩ := e2; exact ⟨b, e3, r.evo ev (nea b rfl e3)⟩
      | bor d => obtain ⟨b, e3, r⟩ := e2; exact ⟨b, e3, r.evo ev (nea b rfl e3)⟩
  · rcases get j s1 q1 with ⟨rfl, rfl⟩ | ⟨_, q1⟩
    · rw [Sl.plc_of_mut m1] at np; cases np.1
    · rcases get k t1 q2 with ⟨rfl, rfl⟩ | ⟨_, q2⟩
      · rw [m2] at np; cases np.1
      · exact E.inj j k s1 t1 b hjk q1 q2 m1 m2 z1 z2
  · obtain ⟨j, d, q, z⟩ := z
    rcases get j _ q with ⟨rfl, e⟩ | ⟨_, q⟩
    · rw [← e] at np; cases np.1
    · exact .inl ⟨j, d, q, z⟩
  · rcases get j _ q with ⟨rfl, e⟩ | ⟨_, q⟩
    · rw [← e] at np; cases np.1
    · exact ⟨d, q⟩
  · rcases get j _ q with ⟨rfl, e⟩ | ⟨_, q⟩
    · rw [← e] at np; cases np.1
    · exact q
  · by_cases e : j = i
    · subst e
      rcases hs with ⟨rfl, _⟩ | ⟨rfl, rfl⟩
      · rw [hi] at q; cases q
      · exact ⟨rfl, _, .inr (set_self hi)⟩
    · exact ⟨rfl, d, .inl (put j _ e q)⟩
  · by_cases e : j = i
    · subst e
      rw [hi] at q; cases q; cases hmut
    · exact ⟨rfl, put j _ e q⟩
  · by_cases e : j = i
    · subst e
      rw [hi] at q; cases q; cases hmut
    · exact ⟨rfl, put j _ e q⟩
  · rcases get j _ q with ⟨rfl, e⟩ | ⟨_, q⟩
    · rw [← e] at np; cases np.1
    · exact ⟨d, q⟩
/-- a new thing is made fast -/
theorem goFastN (E0 : EnvR K F0 H0 σ ρ0) (g : GoE K σ ρ0 F0 H0 ρ F H) {a : Addr} {xs : HO} (n : H0 a = none) (hH : H a = some xs) (hF : F a = none) :
    GoE K σ ρ0 F0 H0 ρ (upd F a xs) H := by
  have sF : Same F (upd F a xs) := same_upd' (H := H) hF
  have ev : Evo (fun b => b = a) F H (upd F a xs) H := ⟨sF, fun b o q _ => q, fun b o q n => upd_ne n, fun b o q => ⟨o, q⟩⟩
  have E : EnvR K F H σ ρ := g.env
  have nA : ∀ (i : Nat) (s : Sl) (b : Addr), ρ[i]? = some s → s.plc = true → σ[i]? = some (some (.ref b)) → b ≠ a := fun i s b h1 h2 h3 z => by
    subst z
    have hn : ∀ {s0 : Sl}, ρ0[i]? = some s0 → s0.plc = true → False := fun {s0} q p => by
      obtain ⟨⟨o, hq⟩, _⟩ := E0.plc_there q p h3
      rw [n] at hq; cases hq
    cases s with
    | no => cases h2
    | val d => cases h2
    | fix d => cases h2
    | own d => obtain ⟨d0, q⟩ := g.ow i d h1; exact hn q rfl
    | inn d => obtain ⟨d0, q⟩ := g.go.inn i d h1; exact hn q rfl
    | bor d => exact hn (g.go.bor i d h1) rfl
  have le : Same (upd F a xs) H := fun b o q => by
    by_cases e : b = a
    · subst e; rw [upd_same] at q; rw [hH]; exact q
    · rw [upd_ne e] at q; exact E.le _ _ q
  have E' := E.evo ev le nA
  exact ⟨⟨g.go.evo.trans ev fun b e => .inr (by rw [e]; exact n), E', g.go.own, g.go.inn, g.go.bor, g.go.kin, g.go.kbo, g.go.kfx, g.go.len⟩, g.ow⟩
theorem fz_ok (E0 : EnvR K F0 H0 σ ρ0) (g : GoE K σ ρ0 F0 H0 ρ F H) {v : V} {o : Op} {d : PyData} (h : OdR K H0 F H σ v o) (e : fz o ρ = .ok d ρ') :
    ∃ F', GoE K σ ρ0 F0 H0 ρ' F' H ∧ Rp K F' v d ∧ Same F F' ∧ ∀ b, F' b ≠ F b → (∃ d, o = .fr d ∧ v = .ref b) ∨ ∃ x, H0 b = some x := by
  have E := g.env
  cases o with
  | v d' =>
    cases e
    exact ⟨F, g, h, Same.refl _, fun b n => absurd rfl n⟩
  | fr d' =>
    obtain ⟨a, rfl, n, ob⟩ := h
    cases e
    obtain ⟨xs, hH, hF, rp⟩ := ob.fast
    refine ⟨_, goFastN E0 g n hH hF, rp, same_upd' (H := H) hF, fun b hb => ?_⟩
    by_cases eb : b = a
    · rw [eb]; exact .inl ⟨_, rfl, rfl⟩
    · exact absurd (upd_ne eb) hb
  | pl i =>
    have h : σ[i]? = some (some v) := h
    unfold fz at e
    cases q : ρ[i]? with
    | none => simp only [q] at e; cases e
    | some s =>
      simp only [q] at e
      have fin : ∀ (s' : Sl) (ds : PyData), (s = .own ds ∧ s' = .val ds) ∨ (s = .inn ds ∧ s' = .fix ds) → d = ds → ρ' = ρ.set i s' → ∃ F', GoE K σ ρ0 F0 H0 ρ' F' H ∧ Rp K F' v d ∧ Same F F' ∧ ∀ b, F' b ≠ F b → (∃ d, Op.pl i = .fr d ∧ v = .ref b) ∨ ∃ x, H0 b = some x := fun s' ds hs hd hρ => by
        subst hd hρ
        obtain ⟨a, xs, h1, hF, hH, g2, rp⟩ := goFast E q hs
        have hA : ownA σ ρ a := by
          rcases hs with ⟨rfl, _⟩ | ⟨rfl, _⟩
          · exact .inl ⟨i, _, q, h1⟩
          · exact .inr ⟨i, _, q, h1⟩
        rw [h1] at h; cases h
        refine ⟨_, g.trans g2, rp, same_upd' (H := H) hF, fun b hb => ?_⟩
        by_cases eb : b = a
        · rw [eb]; exact .inr (own_there E0 (g.ownA hA))
        · exact absurd (upd_ne eb) hb
      cases s with
      | no => cases e
      | bor d' => cases e
      | val d' =>
        cases e
        obtain ⟨o, e1, w, e2, r⟩ := E.sl i _ q
        rw [h] at e1; cases e1; cases e2
        exact ⟨F, g, r, Same.refl _, fun b n => absurd rfl n⟩
      | fix d' =>
        cases e
        obtain ⟨o, e1, w, e2, r⟩ := E.sl i _ q
        rw [h] at e1; cases e1; cases e2
        exact ⟨F, g, r, Same.refl _, fun b n => absurd rfl n⟩
      | own d' => cases e; exact fin _ _ (.inl ⟨rfl, rfl⟩) rfl rfl
      | inn d' => cases e; exact fin _ _ (.inr ⟨rfl, rfl⟩) rfl rfl
theorem fzs_ok (E0 : EnvR K F0 H0 σ ρ0) : ∀ {os : List Op} {vs : List V} {ds : List PyData} {ρ ρ' : En} {F : Hp}, GoE K σ ρ0 F0 H0 ρ F H → Ods K H0 F H σ vs os → fzs os ρ = .ok ds ρ' →
    ∃ F', GoE K σ ρ0 F0 H0 ρ' F' H ∧ RpL K F' vs ds ∧ Same F F'
  | [], [], ds, ρ, ρ', F, g, _, e => by
    cases e
    exact ⟨F, g, .nil, Same.refl _⟩
  | [], _ :: _, _, _, _, _, _, h, _ => h.all.elim
  | _ :: _, [], _, _, _, _, _, h, _ => h.all.elim
  | o :: os, v :: vs, ds, ρ, ρ', F, g, h, e => by
    unfold fzs bnd at e
    cases q : fz o ρ with
    | bad => simp only [q] at e; cases e
    | exc c r => simp only [q] at e; cases e
    | ok d ρ1 =>
      simp only [q] at e
      obtain ⟨F1, g1, r1, s1, ch⟩ := fz_ok E0 g h.all.1 q
      cases q2 : fzs os ρ1 with
      | bad => simp only [bnd, q2] at e; cases e
      | exc c r => simp only [bnd, q2] at e; cases e
      | ok ds2 ρ2 =>
        simp only [bnd, q2] at e
        cases e
        -- the others are what they were
        have keep : ∀ {vs : List V} {os : List Op}, OdsA K H0 F H σ vs os → (∀ b, F1 b ≠ F b → V.ref b ∉ frV vs os) → OdsA K H0 F1 H σ vs os := by
          intro vs
          induction vs with
          | nil => intro os h _; cases os with | nil => trivial | cons _ _ => exact h.elim
          | cons w ws ih =>
            intro os h nb
            cases os with
            | nil => exact h.elim
            | cons o os =>
              cases o with
              | v d => exact ⟨Rp.mono s1 h.1, ih h.2 nb⟩
              | pl i => exact ⟨h.1, ih h.2 nb⟩
              | fr d =>
                obtain ⟨a, rfl, n, ob⟩ := h.1
                refine ⟨⟨a, rfl, n, ?_⟩, ih h.2 fun b hb m => nb b hb (List.mem_cons_of_mem _ m)⟩
                have hb : F1 a = F a := Classical.byContradiction fun z => nb a z List.mem_cons_self
                cases d with
                | list ds => obtain ⟨xs, x1, x2, x3⟩ := ob; exact ⟨xs, x1, hb.trans x2, x3.mono s1⟩
                | dict ds =>
                  rcases ob with ⟨xs, x1, x2, x3⟩ | ⟨xs, x1, x2, x3, x4⟩
                  · exact .inl ⟨xs, x1, hb.trans x2, x3.mono s1⟩
                  · exact .inr ⟨xs, x1, hb.trans x2, x3.mono s1, x4⟩
                | _ => exact (show False from ob).elim
        have hk : OdsA K H0 F1 H σ vs os := keep h.all.2 fun b hb m => by
          rcases ch b hb with ⟨d', e1, e2⟩ | ⟨x, hx⟩
          · subst e1
            have := (List.nodup_cons.mp h.nd).1
            rw [e2] at this
            exact this m
          · obtain ⟨b', e3, n3⟩ := h.all.2.new m
            cases e3
            rw [n3] at hx; cases hx
        obtain ⟨F2, g2, r2, s2⟩ := fzs_ok E0 g1 ⟨hk, by cases o <;> first | exact h.nd | exact (List.nodup_cons.mp h.nd).2⟩ q2
        exact ⟨F2, g2, .cons (r1.mono s2) r2, s1.trans s2⟩
end
end Py
end L2

namespace L2
namespace Py
open PySem PySem.Spec PyProof.Rows

theorem Post.fst {α β : Type} {K : PySem.W.Frag} {W : XW} {σ : St} {ρ : En} {F H : Hp} {m : En → Res α} {k : α → En → Res β} {Z : β → En → Hp → Hp → Prop} {z : α → En → Hp → Hp → Prop} (h : Post K W σ ρ F H (bnd m k ρ) Z)
    (hk : ∀ a ρ1 F1 H1, m ρ = .ok a ρ1 → GoE K σ ρ F H ρ1 F1 H1 → Post K W σ ρ F H (k a ρ1) Z → z a ρ1 F1 H1) : Post K W σ ρ F H (m ρ) z := by
  unfold bnd at h
  cases e : m ρ with
  | ok a ρ1 => rw [e] at h; exact fun F1 H1 g => hk a ρ1 F1 H1 e g h
  | exc c ρ1 => rw [e] at h; exact h
  | bad => rw [e] at h; exact h
def sTup (g : En → Res (List Op)) : En → Res Op := bnd g fun os => bnd (fzs os) fun ds ρ => .ok (.v (.tuple ds)) ρ
def sLst (g : En → Res (List Op)) : En → Res Op := bnd g fun os => bnd (fzs os) fun ds ρ => .ok (.fr (.list ds)) ρ
section
variable {X : Cx} {W : XW} {pos : Pos} {e a b c : Expr} {es : List Expr} {f f1 f2 : En → Res Op} {g : En → Res (List Op)}
theorem post_fzs {β : Type} {K : PySem.W.Frag} {W : XW} {σ : St} {ρ ρ1 : En} {F H F1 H1 : Hp} {os : List Op} {vs : List V} {k : List PyData → En → Res β} {Z : β → En → Hp → Hp → Prop} (E : EnvR K F H σ ρ) (g : GoE K σ ρ F H ρ1 F1 H1) (ods : Ods K H F1 H1 σ vs os)
    (h : Post K W σ ρ F H (bnd (fzs os) k ρ1) Z) : ∃ ds ρ2 F2, fzs os ρ1 = .ok ds ρ2 ∧ GoE K σ ρ F H ρ2 F2 H1 ∧ RpL K F2 vs ds ∧ Post K W σ ρ F H (k ds ρ2) Z := by
  have noexc : ∀ (os : List Op) (ρ : En) (c : Str) (r : En), fzs os ρ ≠ .exc c r := by
    intro os
    induction os with
    | nil => intro ρ c r z; cases z
    | cons o os ih =>
      intro ρ c r z
      unfold fzs bnd at z
      cases q : fz o ρ with
      | bad => simp only [q] at z; cases z
      | exc c' r' =>
        cases o with
        | v d => cases q
        | fr d => cases d <;> cases q
        | pl i =>
          unfold fz at q
          cases q2 : ρ[i]? with
          | none => simp only [q2] at q; cases q
          | some s => simp only [q2] at q; cases s <;> first | cases q | (rename_i d; cases d <;> cases q)
      | ok d ρ1 =>
        simp only [q] at z
        cases q2 : fzs os ρ1 with
        | bad => simp only [bnd, q2] at z; cases z
        | exc c' r' => exact ih _ _ _ q2
        | ok ds ρ2 => simp only [bnd, q2] at z; cases z
  cases q : fzs os ρ1 with
  | bad => unfold bnd at h; simp only [q] at h; exact h.elim
  | exc c r => exact absurd q (noexc _ _ _ _)
  | ok ds ρ2 =>
    obtain ⟨F2, g2, r, _⟩ := fzs_ok E g ods q
    unfold bnd at h
    simp only [q] at h
    exact ⟨ds, ρ2, F2, rfl, g2, r, h⟩
theorem de_tup {x1 : Nat} (hg : DA X W es g) (hl : es.length ≤ 1000 := by decide) : DE X W (.Tuple es x1 pos) (sTup g) := by
  obtain ⟨ta, pa, sa⟩ := hg.ex
  refine ⟨_, pe_tupF pa, fun σ F H ρ Q E h => sa σ F H ρ _ E (h.fst fun os ρ1 F1 H1 eq g1 h1 vs ods => ?_)⟩
  obtain ⟨ds, ρ2, F2, _, g2, r, h2⟩ := post_fzs E g1 ods h1
  refine ⟨by rw [ods.all.len, hg.len _ _ _ eq]; exact Nat.le_of_lt (small1000 hl), fun p ob hp hd => ?_⟩
  have g3 := GoE.layF g2.env hp (.frz ob (.tup vs))
  exact h2 _ _ (g2.trans g3) _ (.tup (sqP_frz upd_same hd) (r.mono g3.go.evo.le))
theorem de_lst (hg : DA X W es g) (hl : es.length ≤ 1000 := by decide) : DE X W (.List es pos) (sLst g) := by
  obtain ⟨ta, pa, sa⟩ := hg.ex
  refine ⟨_, pe_lst pa, fun σ F H ρ Q E h => sa σ F H ρ _ E (h.fst fun os ρ1 F1 H1 eq g1 h1 vs ods => ?_)⟩
  obtain ⟨ds, ρ2, F2, _, g2, r, h2⟩ := post_fzs E g1 ods h1
  refine ⟨by rw [ods.all.len, hg.len _ _ _ eq]; exact Nat.le_of_lt (small1000 hl), fun p hp => ?_⟩
  have g3 := GoE.lay g2.env hp (.lst vs)
  exact h2 _ _ (g2.trans g3) _ ⟨p, rfl, none_of_dom g2.go.evo.dom hp, vs, upd_same, g2.env.le.free hp, r⟩

/-! ### built-in calls -/
def rdds : List Op → En → Res (List PyData)
  | [], ρ => .ok [] ρ
  | o :: os, ρ => bnd (rdd o) (fun d => bnd (rdds os) fun ds ρ' => .ok (d :: ds) ρ') ρ
def sPN (p : List PyData → Option Op) (g : En → Res (List Op)) : En → Res Op := bnd g fun os => bnd (rdds os) fun ds => opt (p ds)
theorem rdds_ok {K : PySem.W.Frag} {H0 F H : Hp} {σ : St} {ρ : En} (E : EnvR K F H σ ρ) : ∀ {os : List Op} {vs : List V}, OdsA K H0 F H σ vs os → (∃ ds, rdds os ρ = .ok ds ρ ∧ Rds K F H vs ds) ∨ rdds os ρ = .bad
  | [], [], _ => .inl ⟨[], rfl, trivial⟩
  | [], _ :: _, h => h.elim
  | _ :: _, [], h => h.elim
  | o :: os, v :: vs, h => by
    unfold rdds bnd rdd
    cases q : rd ρ o with
    | none => exact .inr rfl
    | some d =>
      rcases rdds_ok E h.2 with ⟨ds, e, r⟩ | e
      · left; refine ⟨d :: ds, ?_, h.1.rd1 E q, r⟩
        simp only [bnd, e]
      · right; simp only [bnd, e]
theorem de_N {r : List V → Hp → VK → Prop} {p : List PyData → Option Op} (hp : PN X.K r p) (mk : ∀ t, PA X es t → PE X e (tCB r t)) (ha : DA X W es g) : DE X W e (sPN p g) := by
  obtain ⟨ta, pa, sa⟩ := ha.ex
  refine ⟨_, mk ta pa, fun σ F H ρ Q E h => sa σ F H ρ _ E (h.split.imp fun os ρ1 F1 H1 _ g1 h1 vs ods => ?_)⟩
  rcases rdds_ok g1.env ods.all with ⟨ds, e1, rs⟩ | e1
  · unfold bnd at h1
    simp only [e1] at h1
    obtain ⟨o, e3, gv⟩ := post_opt g1.env g1.go.evo.dom h1
    exact hp F1 H1 vs ds o Q g1.env.le rs e3 gv
  · unfold bnd at h1
    simp only [e1] at h1
    exact h1.elim
theorem rds1 {K : PySem.W.Frag} {F H : Hp} {vs : List V} {d : PyData} (h : Rds K F H vs [d]) : ∃ v, vs = [v] ∧ Rd1 K F H v d := by
  cases vs with
  | nil => exact h.elim
  | cons v vs =>
    cases vs with
    | nil => exact ⟨v, rfl, h.1⟩
    | cons _ _ => exact h.2.elim
theorem rds2 {K : PySem.W.Frag} {F H : Hp} {vs : List V} {d e : PyData} (h : Rds K F H vs [d, e]) : ∃ v w, vs = [v, w] ∧ Rd1 K F H v d ∧ Rd1 K F H w e := by
  cases vs with
  | nil => exact h.elim
  | cons v vs =>
    obtain ⟨w, rfl, r⟩ := rds1 h.2
    exact ⟨v, w, rfl, h.1, r⟩
/-- len(x) -/
def pLen : List PyData → Option Op
  | [.list ds] => some (.v (.int ds.length))
  | [.tuple ds] => some (.v (.int ds.length))
  | [.str z] => if z.length ≤ sizeLine then some (.v (.int z.length)) else none
  | _ => none
theorem pn_len {K : PySem.W.Frag} : PN K (fun xs H Q => ∃ x n, xs = [x] ∧ LenV K x H n ∧ Q (.int n) H) pLen := by
  intro F H xs ds o Q le rs ho q
  unfold pLen at ho
  split at ho
  · cases ho
    obtain ⟨v, rfl, a, ys, rfl, h1, r1⟩ := rds1 rs
    exact ⟨_, ys.length, rfl, .inl ⟨ys, h1, rfl⟩, by rw [r1.length]; exact gives_v le (.int _) q⟩
  · cases ho
    obtain ⟨v, rfl, a, ys, rfl, h1, r1⟩ := rds1 rs
    exact ⟨_, ys.length, rfl, .inr ⟨ys, same_sqT le h1.sq, rfl⟩, by rw [r1.length]; exact gives_v le (.int _) q⟩
  · split at ho
    · rename_i hz
      cases ho
      obtain ⟨v, rfl, r⟩ := rds1 rs
      rw [rd1_str r]
      exact ⟨_, _, rfl, ⟨hz, rfl⟩, gives_v le (.int _) q⟩
    · cases ho
  · cases ho
/-- abs(x), max(x, y), min(x, y) -/
def pAbs : List PyData → Option Op
  | [.int i] => some (.v (.int (if i < 0 then -i else i)))
  | _ => none
theorem pn_abs {K : PySem.W.Frag} : PN K (fun xs H Q => ∃ i, xs = [.int i] ∧ Q (.int (if i < 0 then -i else i)) H) pAbs := by
  intro F H xs ds o Q le rs ho q
  unfold pAbs at ho
  split at ho
  · cases ho
    obtain ⟨v, rfl, r⟩ := rds1 rs
    rw [rd1_int r]
    exact ⟨_, rfl, gives_v le (.int _) q⟩
  · cases ho
def pInt2 (g : Int → Int → Int) : List PyData → Option Op
  | [.int i, .int j] => some (.v (.int (g i j)))
  | _ => none
theorem pn_int2 {K : PySem.W.Frag} {g : Int → Int → Int} : PN K (fun xs H Q => ∃ i j, xs = [.int i, .int j] ∧ Q (.int (g i j)) H) (pInt2 g) := by
  intro F H xs ds o Q le rs ho q
  unfold pInt2 at ho
  split at ho
  · cases ho
    obtain ⟨v, w, rfl, r1, r2⟩ := rds2 rs
    rw [rd1_int r1, rd1_int r2]
    exact ⟨_, _, rfl, gives_v le (.int _) q⟩
  · cases ho
/-- tuple(x), list(x) -/
def pTupOf : List PyData → Option Op
  | [.list ds] => some (.v (.tuple ds))
  | [.tuple ds] => some (.v (.tuple ds))
  | _ => none
theorem pn_tupOf {K : PySem.W.Frag} : PN K (rTupP K) pTupOf := by
  intro F H xs ds o Q le rs ho q
  unfold pTupOf at ho
  split at ho
  · cases ho
    obtain ⟨v, rfl, a, ys, rfl, h1, r1⟩ := rds1 rs
    exact ⟨a, ys, rfl, .inl ⟨h1, gives_tup le r1 q⟩⟩
  · cases ho
    obtain ⟨v, rfl, a, ys, rfl, h1, r1⟩ := rds1 rs
    exact ⟨a, ys, rfl, .inr ⟨same_sqT le h1.sq, gives_v le (.tup h1 r1) q⟩⟩
  · cases ho
def zq6g : List PyData → Option Op
  | [.list ds] => some (.fr (.list ds))
  | [.tuple ds] => some (.fr (.list ds))
  | _ => none
theorem pn_lstOf {K : PySem.W.Frag} : PN K (fun xs H Q => ∃ p ys, xs = [.ref p] ∧ (SqL K H p ys ∨ SqT K H p ys) ∧ ∀ l, H l = none → Q (.ref l) (upd H l (.lst ys))) zq6g := by
  intro F H xs ds o Q le rs ho q
  unfold zq6g at ho
  split at ho
  · cases ho
    obtain ⟨v, rfl, a, ys, rfl, h1, r1⟩ := rds1 rs
    exact ⟨a, ys, rfl, .inl h1, fun l hl => gives_lst le r1 hl q⟩
  · cases ho
    obtain ⟨v, rfl, a, ys, rfl, h1, r1⟩ := rds1 rs
    exact ⟨a, ys, rfl, .inr (same_sqT le h1.sq), fun l hl => gives_lst le r1 hl q⟩
  · cases ho
/-- all(x), any(x): a list of truths -/
def bools : List PyData → Option (List Bool)
  | [] => some []
  | .bool b :: ds => (bools ds).map (b :: ·)
  | _ => none
theorem bools_rp {K : PySem.W.Frag} {F : Hp} : ∀ {vs : List V} {ds : List PyData} {bs : List Bool}, RpL K F vs ds → bools ds = some bs → vs = bs.map V.bl
  | _, _, _, .nil, e => by cases e; rfl
  | _, _, bs, .cons (d := d) (ds := ds) h t, e => by
    cases h with
    | bl b =>
      unfold bools at e
      cases q : bools ds with
      | none => rw [q] at e; cases e
      | some bs' =>
        rw [q] at e
        cases e
        rw [bools_rp t q]
        rfl
    | non => cases e
    | int i => cases e
    | str x => cases e
    | lst _ _ => cases e
    | tup _ _ => cases e
    | dic _ _ => cases e
    | dicN _ _ _ => cases e
def pAll : List PyData → Option Op
  | [.list ds] => (bools ds).map fun bs => .v (.bool (bs.all id))
  | _ => none
def pAny : List PyData → Option Op
  | [.list ds] => (bools ds).map fun bs => .v (.bool (bs.any id))
  | _ => none
theorem pn_all {K : PySem.W.Frag} : PN K (rAll K) pAll := by
  intro F H xs ds o Q le rs ho q
  unfold pAll at ho
  split at ho
  · rename_i ds
    obtain ⟨v, rfl, a, ys, rfl, h1, r1⟩ := rds1 rs
    cases e : bools ds with
    | none => rw [e] at ho; cases ho
    | some bs =>
      rw [e] at ho
      cases ho
      rw [bools_rp r1 e] at h1
      exact ⟨a, bs, rfl, h1, gives_v le (.bl _) q⟩
  · cases ho
theorem pn_any {K : PySem.W.Frag} : PN K (rAny K) pAny := by
  intro F H xs ds o Q le rs ho q
  unfold pAny at ho
  split at ho
  · rename_i ds
    obtain ⟨v, rfl, a, ys, rfl, h1, r1⟩ := rds1 rs
    cases e : bools ds with
    | none => rw [e] at ho; cases ho
    | some bs =>
      rw [e] at ho
      cases ho
      rw [bools_rp r1 e] at h1
      exact ⟨a, bs, rfl, h1, gives_v le (.bl _) q⟩
  · cases ho
/-! ### isinstance(x, T) -/
def rIsD (K : PySem.W.Frag) (T : String) (isT : PyData → Bool) : List V → Hp → VK → Prop := fun xs H Q => ∃ x d, xs = [x, .ty T] ∧ Rp K H x d ∧ Q (.bl (isT d)) H
def sIs (isT : PyData → Bool) (f : En → Res Op) : En → Res Op := bnd f fun o => bnd (rdd o) fun d ρ => .ok (.v (.bool (isT d))) ρ
theorem de_isi {T : String} {isT : PyData → Bool} {x : Str} {p p2 : Pos} (hr : CallR X (.builtin "isinstance") (rIsD X.K T isT)) (hg : Gl X "isinstance") (hm : X.mg "isinstance" = none) (hT : PE X (.Name x p2) (tC (.ty T))) (ha : DE X W a f)
    (he : starEach [a, .Name x p2] X.env = (false, eval a X.env) :: starEach [.Name x p2] X.env := by rfl) (hpl : (backTo pos (starEach [.Name x p2] X.env)).any (·.1) = false := by rfl) (hs : starEach [.Name x p2] X.env = (false, eval (.Name x p2) X.env) :: starEach [] X.env := by rfl) :
    DE X W (.Call (.Name "isinstance" p) [a, .Name x p2] [] pos) (sIs isT f) := by
  obtain ⟨ta, pa, sa⟩ := ha.ex
  refine ⟨_, pe_callB hr hg hm (by decide +kernel) (pa_cons pa (pa_cons hT pa_nil hs) he) (by decide) (by decide) he hpl, fun σ F H ρ Q E h => sa σ F H ρ _ E (h.split.imp fun o1 ρ1 F1 H1 _ g1 h1 v1 r1 => ?_)⟩
  obtain ⟨d, e1, h2⟩ := post_rdd g1.env h1
  have h2 : ∀ F' H', GoE X.K σ ρ1 F1 H1 ρ1 F' H' → ∀ v, OdR X.K H F' H' σ v (.v (.bool (isT d))) → Q v H' := h2
  exact ⟨v1, d, rfl, (r1.rd1 g1.env e1).rp g1.env.le, h2 F1 H1 (.refl g1.env) _ (.bl _)⟩
theorem isi_int : CallR X (.builtin "isinstance") (rIsD X.K "int" PyData.isInt) := by
  intro pins s σ H vs us Q I r h
  obtain ⟨x, d, rfl, hd, q⟩ := h
  obtain ⟨u, w', rfl, r1, r2⟩ := vals2 r
  cases r2
  obtain ⟨as, rr⟩ := Rp.reads I d x u hd r1
  exact PySem.W.isinstance_int_data rr fun tk _ => ⟨.bl _, H, I.tok tk, rfl, q⟩
theorem isi_bool : CallR X (.builtin "isinstance") (rIsD X.K "bool" PyData.isBool) := by
  intro pins s σ H vs us Q I r h
  obtain ⟨x, d, rfl, hd, q⟩ := h
  obtain ⟨u, w', rfl, r1, r2⟩ := vals2 r
  cases r2
  obtain ⟨as, rr⟩ := Rp.reads I d x u hd r1
  exact PySem.W.isinstance_bool_data rr fun tk _ => ⟨.bl _, H, I.tok tk, rfl, q⟩
theorem isi_str : CallR X (.builtin "isinstance") (rIsD X.K "str" PyData.isStr) := by
  intro pins s σ H vs us Q I r h
  obtain ⟨x, d, rfl, hd, q⟩ := h
  obtain ⟨u, w', rfl, r1, r2⟩ := vals2 r
  cases r2
  obtain ⟨as, rr⟩ := Rp.reads I d x u hd r1
  exact PySem.W.isinstance_str_data rr fun tk _ => ⟨.bl _, H, I.tok tk, rfl, q⟩
theorem isi_list : CallR X (.builtin "isinstance") (rIsD X.K "list" PyData.isList) := by
  intro pins s σ H vs us Q I r h
  obtain ⟨x, d, rfl, hd, q⟩ := h
  obtain ⟨u, w', rfl, r1, r2⟩ := vals2 r
  cases r2
  obtain ⟨as, rr⟩ := Rp.reads I d x u hd r1
  exact PySem.W.isinstance_list_data rr fun tk _ => ⟨.bl _, H, I.tok tk, rfl, q⟩
theorem isi_tuple : CallR X (.builtin "isinstance") (rIsD X.K "tuple" PyData.isTuple) := by
  intro pins s σ H vs us Q I r h
  obtain ⟨x, d, rfl, hd, q⟩ := h
  obtain ⟨u, w', rfl, r1, r2⟩ := vals2 r
  cases r2
  obtain ⟨as, rr⟩ := Rp.reads I d x u hd r1
  exact PySem.W.isinstance_tuple_data rr fun tk _ => ⟨.bl _, H, I.tok tk, rfl, q⟩
/-! ### slices -/
structure DO (X : Cx) (W : XW) (e : Option Expr) (f : En → Res (Option Int)) : Prop where
  ex : ∃ t, PO X e t ∧ ∀ (σ : St) (F H : Hp) (ρ : En) (Q : Option Int → Hp → Prop), EnvR X.K F H σ ρ → Post X.K W σ ρ F H (f ρ) (fun o _ _ H' => Q o H') → t σ H Q
def sNo : En → Res (Option Int) := fun ρ => .ok none ρ
def sSome (f : En → Res Op) : En → Res (Option Int) := bnd f fun o => bnd (rdd o) fun d ρ => match d with
  | .int i => .ok (some i) ρ
  | _ => .bad
theorem do_none : DO X W none sNo := ⟨_, po_none, fun σ F H ρ Q E h => h F H (.refl E)⟩
theorem do_some (ha : DE X W a f) : DO X W (some a) (sSome f) := by
  obtain ⟨ta, pa, sa⟩ := ha.ex
  refine ⟨_, po_some pa, fun σ F H ρ Q E h => sa σ F H ρ _ E (h.split.imp fun o1 ρ1 F1 H1 _ g1 h1 v1 r1 => ?_)⟩
  obtain ⟨d, e1, h2⟩ := post_rdd g1.env h1
  cases d with
  | int i =>
    have h2 : ∀ F' H', GoE X.K σ ρ1 F1 H1 ρ1 F' H' → Q (some i) H' := h2
    exact ⟨i, rd1_int (r1.rd1 g1.env e1), h2 F1 H1 (.refl g1.env)⟩
  | _ => exact h2.elim
def sSl (f : En → Res Op) (l u : En → Res (Option Int)) : En → Res Op := bnd f fun o => bnd l fun lo => bnd u fun hi => bnd (rdd o) fun d => opt (pSl d lo hi)
theorem de_slice {lo hi : Option Expr} {p2 : Pos} {fl fu : En → Res (Option Int)} (ha : DE X W a f) (hl : DO X W lo fl) (hu : DO X W hi fu) : DE X W (.Subscript a (.Slice lo hi none p2) pos) (sSl f fl fu) := by
  obtain ⟨ta, pa, sa⟩ := ha.ex
  obtain ⟨tl, pl, sl⟩ := hl.ex
  obtain ⟨tu, pu, su⟩ := hu.ex
  refine ⟨_, pe_slice sl_4 pa pl pu, fun σ F H ρ Q E h => sa σ F H ρ _ E (h.split.imp fun o1 ρ1 F1 H1 _ g1 h1 v1 r1 => ?_)⟩
  refine sl σ F1 H1 ρ1 _ g1.env (h1.split.imp fun l ρ2 F2 H2 _ g2 h2 => ?_)
  refine su σ F2 H2 ρ2 _ g2.env (h2.split.imp fun u ρ3 F3 H3 _ g3 h3 => ?_)
  obtain ⟨d, e1, h4⟩ := post_rdd g3.env h3
  obtain ⟨o, e3, gv⟩ := post_opt g3.env (g1.trans (g2.trans g3)).go.evo.dom h4
  exact sl_sound g3.env.le ((r1.go E g1 (g2.trans g3)).rd1 g3.env e1) e3 gv
/-! ### tests -/
/-- an operand that is a truth -/
def bl (o : Op) : En → Res Bool := bnd (rdd o) fun d ρ => match d with
  | .bool b => .ok b ρ
  | _ => .bad
theorem post_bl {β : Type} {K : PySem.W.Frag} {W : XW} {H0 : Hp} {σ : St} {ρ : En} {F H : Hp} {o : Op} {v : V} {k : Bool → En → Res β} {Z : β → En → Hp → Hp → Prop} (E : EnvR K F H σ ρ) (r : OdR K H0 F H σ v o) (h : Post K W σ ρ F H (bnd (bl o) k ρ) Z) : ∃ b, v = .bl b ∧ Post K W σ ρ F H (k b ρ) Z := by
  unfold bl bnd rdd at h
  cases e : rd ρ o with
  | none => simp only [bnd, e] at h; exact h.elim
  | some d =>
    simp only [bnd, e] at h
    cases d with
    | bool b => exact ⟨b, rd1_bool (r.rd1 E e), h⟩
    | _ => exact h.elim
def sTest (f : En → Res Op) : En → Res Bool := bnd f fun o => bnd (bl o) fun b ρ => .ok b ρ
theorem dt_val (ha : DE X W e f) (he : ∀ whole, isTrue e X.env whole = (do let v ← whole; standAt e.pos; holding [v] (truthy v)) := by intro _; rfl) : DT X W e (sTest f) := by
  obtain ⟨ta, pa, sa⟩ := ha.ex
  refine ⟨_, pt_val pa he, fun σ F H ρ Q E h => sa σ F H ρ _ E (h.split.imp fun o1 ρ1 F1 H1 _ g1 h1 v1 r1 => ?_)⟩
  obtain ⟨b, e1, h2⟩ := post_bl g1.env r1 h1
  exact ⟨b, e1, h2 F1 H1 (.refl g1.env)⟩
theorem dt_cmp {op : CmpOp} {r : R2} {p : PyData → PyData → Option Op} (ho : OpR X (compareOp op) r) (hp : P2 X.K r p) (ha : DE X W a f1) (hb : DE X W b f2) (hm : behindInMarks op b = false) : DT X W (.Compare a [op] [b] pos) (sTest (sP2 p f1 f2)) := by
  obtain ⟨ta, pa, sa⟩ := ha.ex
  obtain ⟨tb, pb, sb⟩ := hb.ex
  refine ⟨_, pt_cmpR ho pa pb hm, fun σ F H ρ Q E h => ?_⟩
  refine sa σ F H ρ _ E ((h.split (m := sP2 p f1 f2)).split.imp fun o1 ρ1 F1 H1 _ g1 h1 v1 r1 => ?_)
  refine sb σ F1 H1 ρ1 _ g1.env (h1.split.imp fun o2 ρ2 F2 H2 _ g2 h2 v2 r2 => ?_)
  obtain ⟨d, e1, h3⟩ := post_rdd g2.env h2
  obtain ⟨e', e2, h4⟩ := post_rdd g2.env h3
  cases q : p d e' with
  | none => rw [q] at h4; exact h4.elim
  | some o =>
    rw [q] at h4
    refine hp F2 H2 v1 v2 d e' o _ g2.env.le ((r1.go E g1 g2).rd1 g2.env e1) ((r2.early g1.go.evo.dom).rd1 g2.env e2) q fun v F' H' ev le r => ?_
    have g3 : GoE X.K σ ρ2 F2 H2 ρ2 F' H' := GoE.news g2.env ev le
    have h4 : ∀ F' H', GoE X.K σ ρ2 F2 H2 ρ2 F' H' → Post X.K W σ ρ2 F' H' (bnd (bl o) (fun b ρ => .ok b ρ) ρ2) fun b _ _ H' => Q b H' := h4
    obtain ⟨b, e3, h5⟩ := post_bl g3.env (odr_nil r) (h4 F' H' g3)
    exact ⟨b, e3, h5 F' H' (.refl g3.env)⟩
def sAnd (f g : En → Res Bool) : En → Res Bool := bnd f fun b => if b = true then g else fun ρ => .ok false ρ
def sOr (f g : En → Res Bool) : En → Res Bool := bnd f fun b => if b = true then fun ρ => .ok true ρ else g
def sNot (f : En → Res Bool) : En → Res Bool := bnd f fun b ρ => .ok (!b) ρ
variable {h1 h2 : En → Res Bool} {rest : List Expr}
theorem dw_and1 (ha : DT X W a h1) : DW X W (.BoolOp .And [a] pos) h1 := by
  obtain ⟨ta, pa, sa⟩ := ha.ex
  exact ⟨_, pw_and1 pa, sa⟩
theorem dw_or1 (ha : DT X W a h1) : DW X W (.BoolOp .Or [a] pos) h1 := by
  obtain ⟨ta, pa, sa⟩ := ha.ex
  exact ⟨_, pw_or1 pa, sa⟩
theorem dw_and (ha : DT X W a h1) (hb : DW X W (.BoolOp .And (b :: rest) pos) h2) : DW X W (.BoolOp .And (a :: b :: rest) pos) (sAnd h1 h2) := by
  obtain ⟨ta, pa, sa⟩ := ha.ex
  obtain ⟨tb, pb, sb⟩ := hb.ex
  refine ⟨_, pw_and pa pb, fun σ F H ρ Q E h => sa σ F H ρ _ E (h.split.imp fun c ρ1 F1 H1 _ g1 h1 => ?_)⟩
  cases c with
  | true => exact iteT (sb σ F1 H1 ρ1 _ g1.env h1)
  | false => exact iteF (h1 F1 H1 (.refl g1.env))
theorem dw_or (ha : DT X W a h1) (hb : DW X W (.BoolOp .Or (b :: rest) pos) h2) : DW X W (.BoolOp .Or (a :: b :: rest) pos) (sOr h1 h2) := by
  obtain ⟨ta, pa, sa⟩ := ha.ex
  obtain ⟨tb, pb, sb⟩ := hb.ex
  refine ⟨_, pw_or pa pb, fun σ F H ρ Q E h => sa σ F H ρ _ E (h.split.imp fun c ρ1 F1 H1 _ g1 h1 => ?_)⟩
  cases c with
  | true => exact iteT (h1 F1 H1 (.refl g1.env))
  | false => exact iteF (sb σ F1 H1 ρ1 _ g1.env h1)
theorem dt_w (ha : DW X W e h1) : DT X W e h1 := by
  obtain ⟨ta, pa, sa⟩ := ha.ex
  exact ⟨_, pa.pt, sa⟩
theorem dt_not (ha : DT X W a h1) : DT X W (.UnaryOp .Not a pos) (sNot h1) := by
  obtain ⟨ta, pa, sa⟩ := ha.ex
  exact ⟨_, pt_not pa, fun σ F H ρ Q E h => sa σ F H ρ _ E (h.split.imp fun c ρ1 F1 H1 _ g1 h1 => h1 F1 H1 (.refl g1.env))⟩
/-! ### and, or, not as values: all but the last are truths -/
def sAndV (f g : En → Res Op) : En → Res Op := bnd f fun o => bnd (bl o) fun b => if b = true then g else fun ρ => .ok (.v (.bool false)) ρ
def sOrV (f g : En → Res Op) : En → Res Op := bnd f fun o => bnd (bl o) fun b => if b = true then fun ρ => .ok (.v (.bool true)) ρ else g
def sNotV (f : En → Res Op) : En → Res Op := bnd f fun o => bnd (bl o) fun b ρ => .ok (.v (.bool (!b))) ρ
theorem Post.early {K : PySem.W.Frag} {W : XW} {σ : St} {ρ : En} {F H H0 : Hp} {r : Res Op} {Q : VK} (dm : ∀ a o, H0 a = some o → ∃ o', H a = some o') (h : Post K W σ ρ F H r (fun o _ F' H' => ∀ v, OdR K H0 F' H' σ v o → Q v H')) : Post K W σ ρ F H r (fun o _ F' H' => ∀ v, OdR K H F' H' σ v o → Q v H') :=
  h.imp fun o ρ' F' H' _ g k v r => k v (r.early dm)
theorem de_one {op : BoolOp} (ha : DE X W a f) : DE X W (.BoolOp op [a] pos) f := by
  obtain ⟨ta, pa, sa⟩ := ha.ex
  exact ⟨_, pe_one pa, sa⟩
theorem de_and (ha : DE X W a f1) (hb : DE X W (.BoolOp .And (b :: rest) pos) f2) : DE X W (.BoolOp .And (a :: b :: rest) pos) (sAndV f1 f2) := by
  obtain ⟨ta, pa, sa⟩ := ha.ex
  obtain ⟨tb, pb, sb⟩ := hb.ex
  refine ⟨_, pe_and pa pb, fun σ F H ρ Q E h => sa σ F H ρ _ E (h.split.imp fun o1 ρ1 F1 H1 _ g1 h1 v1 r1 => ?_)⟩
  obtain ⟨c, e1, h2⟩ := post_bl g1.env r1 h1
  refine ⟨c, e1, ?_⟩
  cases c with
  | true => exact iteT (sb σ F1 H1 ρ1 _ g1.env (Post.early g1.go.evo.dom h2))
  | false => exact iteF (h2 F1 H1 (.refl g1.env) _ (.bl _))
theorem de_or (ha : DE X W a f1) (hb : DE X W (.BoolOp .Or (b :: rest) pos) f2) : DE X W (.BoolOp .Or (a :: b :: rest) pos) (sOrV f1 f2) := by
  obtain ⟨ta, pa, sa⟩ := ha.ex
  obtain ⟨tb, pb, sb⟩ := hb.ex
  refine ⟨_, pe_or pa pb, fun σ F H ρ Q E h => sa σ F H ρ _ E (h.split.imp fun o1 ρ1 F1 H1 _ g1 h1 v1 r1 => ?_)⟩
  obtain ⟨c, e1, h2⟩ := post_bl g1.env r1 h1
  refine ⟨c, e1, ?_⟩
  cases c with
  | true => exact iteT (h2 F1 H1 (.refl g1.env) _ (.bl _))
  | false => exact iteF (sb σ F1 H1 ρ1 _ g1.env (Post.early g1.go.evo.dom h2))
theorem de_not (ha : DE X W a f) : DE X W (.UnaryOp .Not a pos) (sNotV f) := by
  obtain ⟨ta, pa, sa⟩ := ha.ex
  refine ⟨_, pe_not pa, fun σ F H ρ Q E h => sa σ F H ρ _ E (h.split.imp fun o1 ρ1 F1 H1 _ g1 h1 v1 r1 => ?_)⟩
  obtain ⟨c, e1, h2⟩ := post_bl g1.env r1 h1
  exact ⟨c, e1, h2 F1 H1 (.refl g1.env) _ (.bl _)⟩
def sIf {α : Type} (t : En → Res Bool) (f g : En → Res α) : En → Res α := bnd t fun b => if b = true then f else g
theorem de_if {t : En → Res Bool} (hc : DT X W c t) (ha : DE X W a f1) (hb : DE X W b f2) : DE X W (.IfExp c a b pos) (sIf t f1 f2) := by
  obtain ⟨tc, pc, sc⟩ := hc.ex
  obtain ⟨ta, pa, sa⟩ := ha.ex
  obtain ⟨tb, pb, sb⟩ := hb.ex
  refine ⟨_, pe_ifExp pc pa pb, fun σ F H ρ Q E h => sc σ F H ρ _ E (h.split.imp fun c ρ1 F1 H1 _ g1 h1 => ?_)⟩
  cases c with
  | true => exact iteT (sa σ F1 H1 ρ1 _ g1.env (Post.early g1.go.evo.dom h1))
  | false => exact iteF (sb σ F1 H1 ρ1 _ g1.env (Post.early g1.go.evo.dom h1))
end
end Py
end L2

namespace L2
namespace Py
open PySem PySem.Spec PyProof.Rows

/-! ### slots that are put anew -/
section
variable {K : PySem.W.Frag} {σ : St} {ρ ρ1 : En} {F H F1 H1 : Hp}
theorem set_get {α : Type} {l : List α} {i j : Nat} {x s t : α} (hi : l[i]? = some s) (h : (l.set i x)[j]? = some t) : (j = i ∧ t = x) ∨ (j ≠ i ∧ l[j]? = some t) := by
  by_cases e : j = i
  · subst e; rw [set_self hi] at h; exact .inl ⟨rfl, (Option.some.inj h).symm⟩
  · rw [List.getElem?_set_ne (Ne.symm e)] at h; exact .inr ⟨e, h⟩
theorem set_put {α : Type} {l : List α} {i j : Nat} {x t : α} (e : j ≠ i) (h : l[j]? = some t) : (l.set i x)[j]? = some t := by
  rw [List.getElem?_set_ne (Ne.symm e)]; exact h
/-- the thing of slot j is another one now -/
theorem goPutO {j : Nat} {s s' : Sl} {a : Addr} {ds ds' : PyData} {o' : HO} (E : EnvR K F H σ ρ) (hj : ρ[j]? = some s) (hs : (s = .own ds ∧ s' = .own ds') ∨ (s = .inn ds ∧ s' = .inn ds')) (hσ : σ[j]? = some (some (.ref a))) (hob : Ob K F (upd H a o') a ds') :
    GoE K σ ρ F H (ρ.set j s') F (upd H a o') := by
  have hmut : s.mut = true := by rcases hs with ⟨rfl, _⟩ | ⟨rfl, _⟩ <;> rfl
  have hplc : s'.plc = true := by rcases hs with ⟨_, rfl⟩ | ⟨_, rfl⟩ <;> rfl
  have hA : ownA σ ρ a := by
    rcases hs with ⟨rfl, _⟩ | ⟨rfl, _⟩
    · exact .inl ⟨j, _, hj, hσ⟩
    · exact .inr ⟨j, _, hj, hσ⟩
  have hF : F a = none := own_notF E hA
  have ev : Evo (fun b => b = a) F H F (upd H a o') := ⟨Same.refl _, fun b o q n => by rw [upd_ne n]; exact q, fun _ _ _ _ => rfl, fun b o q => by
    by_cases e : b = a
    · subst e; exact ⟨_, upd_same⟩
    · rw [upd_ne e]; exact ⟨o, q⟩⟩
  refine ⟨⟨ev.weak fun b e => by rw [e]; exact hA, ⟨by rw [List.length_set]; exact E.len, fun b o q => ?_, fun i t q => ?_, fun i k s1 t1 b hik q1 q2 m1 m2 z1 z2 => ?_⟩, fun b z => ?_, fun i d q => ?_, fun i d q => ?_, fun i d q => ?_, fun i d q => ?_, fun i d q => ?_, List.length_set⟩, fun i d q => ?_⟩
  · rw [upd_ne (ne_of_none q hF)]; exact E.le _ _ q
  · rcases set_get hj q with ⟨rfl, rfl⟩ | ⟨ne, q⟩
    · refine ⟨_, hσ, ?_⟩
      rcases hs with ⟨_, rfl⟩ | ⟨_, rfl⟩
      · exact ⟨a, rfl, hob⟩
      · exact ⟨a, rfl, hob⟩
    · obtain ⟨o, e1, e2⟩ := E.sl i t q
      refine ⟨o, e1, ?_⟩
      have nea : ∀ b, t.plc = true → o = some (.ref b) → b ≠ a := fun b p e z => by
        subst e; subst z
        exact E.inj j i s t b (Ne.symm ne) hj q hmut p hσ e1
      cases t with
      | no => trivial
      | val d => exact e2
      | fix d => exact e2
      | own d => obtain ⟨b, e3, r⟩ := e2; exact ⟨b, e3, r.evo ev (nea b rfl e3)⟩
      | inn d => obtain ⟨b, e3, r⟩ := e2; exact ⟨b, e3, r.evo ev (nea b rfl e3)⟩
      | bor d => obtain ⟨b, e3, r⟩ := e2; exact ⟨b, e3, r.evo ev (nea b rfl e3)⟩
  · rcases set_get hj q1 with ⟨rfl, rfl⟩ | ⟨_, r1⟩
    · rcases set_get hj q2 with ⟨rfl, rfl⟩ | ⟨_, r2⟩
      · exact hik rfl
      · exact E.inj _ _ s t1 b hik hj r2 hmut m2 z1 z2
    · rcases set_get hj q2 with ⟨e, _⟩ | ⟨_, r2⟩
      · exact E.inj _ _ s1 s b hik r1 (by rw [e]; exact hj) m1 (Sl.plc_of_mut hmut) z1 z2
      · exact E.inj _ _ s1 t1 b hik r1 r2 m1 m2 z1 z2
  · obtain ⟨i, d, q, z⟩ := z
    rcases set_get hj q with ⟨rfl, e⟩ | ⟨_, q⟩
    · rcases hs with ⟨rfl, rfl⟩ | ⟨rfl, rfl⟩
      · exact .inl ⟨_, _, hj, z⟩
      · cases e
    · exact .inl ⟨i, d, q, z⟩
  · rcases set_get hj q with ⟨rfl, e⟩ | ⟨_, q⟩
    · rcases hs with ⟨rfl, rfl⟩ | ⟨rfl, rfl⟩
      · cases e
      · exact ⟨_, hj⟩
    · exact ⟨d, q⟩
  · rcases set_get hj q with ⟨rfl, e⟩ | ⟨_, q⟩
    · rcases hs with ⟨rfl, rfl⟩ | ⟨rfl, rfl⟩ <;> cases e
    · exact q
  · by_cases e : i = j
    · subst e
      rcases hs with ⟨rfl, rfl⟩ | ⟨rfl, rfl⟩
      · rw [hj] at q; cases q
      · exact ⟨rfl, _, .inl (set_self hj)⟩
    · exact ⟨rfl, d, .inl (set_put e q)⟩
  · by_cases e : i = j
    · subst e; rw [hj] at q; cases q; cases hmut
    · exact ⟨rfl, set_put e q⟩
  · by_cases e : i = j
    · subst e; rw [hj] at q; cases q; cases hmut
    · exact ⟨rfl, set_put e q⟩
  · rcases set_get hj q with ⟨rfl, e⟩ | ⟨_, q⟩
    · rcases hs with ⟨rfl, rfl⟩ | ⟨rfl, rfl⟩
      · exact ⟨_, hj⟩
      · cases e
    · exact ⟨d, q⟩
theorem goPut {j : Nat} {s s' : Sl} {a : Addr} {ds ds' : List PyData} {xs' : List V} (E : EnvR K F H σ ρ) (hj : ρ[j]? = some s) (hs : (s = .own (.list ds) ∧ s' = .own (.list ds')) ∨ (s = .inn (.list ds) ∧ s' = .inn (.list ds'))) (hσ : σ[j]? = some (some (.ref a))) (hr : RpL K F xs' ds') :
    GoE K σ ρ F H (ρ.set j s') F (upd H a (.lst xs')) :=
  have hA : ownA σ ρ a := by
    rcases hs with ⟨rfl, _⟩ | ⟨rfl, _⟩
    · exact .inl ⟨j, _, hj, hσ⟩
    · exact .inr ⟨j, _, hj, hσ⟩
  goPutO E hj hs hσ ⟨xs', upd_same, own_notF E hA, hr⟩
/-- may a name be stored there -/
def Sl.free : Sl → Bool
  | .no => true
  | .val _ => true
  | .own _ => true
  | _ => false
/-- a name is stored: a datum, or a new thing -/
theorem goSet {i : Nat} {s s' : Sl} {v : V} (E : EnvR K F H σ ρ) (g : GoE K σ ρ F H ρ1 F1 H1) (hi : ρ1[i]? = some s) (hf : s.free = true) (hs : (∃ d, s' = .val d ∧ Rp K F1 v d) ∨ (∃ d a, s' = .own d ∧ v = .ref a ∧ H a = none ∧ Ob K F1 H1 a d)) :
    Go K σ ρ F H (σ.set i (some v)) (ρ1.set i s') F1 H1 := by
  have E1 := g.env
  have hl : i < σ.length := by rw [E1.len]; exact (List.getElem?_eq_some_iff.mp hi).1
  obtain ⟨o0, hσ, _⟩ := E1.sl i s hi
  have nm : s'.mut = true → ∃ d a, s' = .own d ∧ v = .ref a ∧ H a = none ∧ Ob K F1 H1 a d := fun m => by
    rcases hs with ⟨d, rfl, _⟩ | h
    · cases m
    · exact h
  have npl : s'.plc = true → s'.mut = true := fun m => by
    rcases hs with ⟨d, rfl, _⟩ | ⟨d, a, rfl, _⟩
    · cases m
    · rfl
  -- where a thing of another slot stands: it was there at the start
  have old : ∀ (k : Nat) (t : Sl) (b : Addr), ρ1[k]? = some t → t.plc = true → σ[k]? = some (some (.ref b)) → ∃ x, H b = some x := fun k t b q p z => by
    cases t with
    | no => cases p
    | val d => cases p
    | fix d => cases p
    | own d => obtain ⟨d0, q0⟩ := g.ow k d q; exact (E.plc_there q0 rfl z).1
    | inn d => obtain ⟨d0, q0⟩ := g.go.inn k d q; exact (E.plc_there q0 rfl z).1
    | bor d => exact (E.plc_there (g.go.bor k d q) rfl z).1
  refine ⟨g.go.evo, ⟨by rw [List.length_set, List.length_set]; exact E1.len, E1.le, fun j t q => ?_, fun j k s1 t1 b hjk q1 q2 m1 m2 z1 z2 => ?_⟩, fun b z => ?_, fun j d q => ?_, fun j d q => ?_, fun j d q => ?_, fun j d q => ?_, fun j d q => ?_, by rw [List.length_set]; exact g.go.len⟩
  · rcases set_get hi q with ⟨rfl, rfl⟩ | ⟨ne, q⟩
    · refine ⟨_, set_self hσ, ?_⟩
      rcases hs with ⟨d, rfl, r⟩ | ⟨d, a, rfl, rfl, n, ob⟩
      · exact ⟨v, rfl, r⟩
      · exact ⟨a, rfl, ob⟩
    · obtain ⟨o, e1, e2⟩ := E1.sl j t q
      exact ⟨o, set_put ne e1, e2⟩
  · have at' : ∀ (k : Nat) (b : Addr), k ≠ i → (σ.set i (some v))[k]? = some (some (.ref b)) → σ[k]? = some (some (.ref b)) := fun k b ne z => by
      rw [List.getElem?_set_ne (Ne.symm ne)] at z; exact z
    rcases set_get hi q1 with ⟨rfl, rfl⟩ | ⟨n1, q1⟩
    · obtain ⟨d, a, e1, e2, n, ob⟩ := nm m1
      rcases set_get hi q2 with ⟨rfl, rfl⟩ | ⟨n2, q2⟩
      · exact hjk rfl
      · rw [set_self hσ] at z1
        rw [e2] at z1
        cases z1
        obtain ⟨x, hx⟩ := old k t1 _ q2 m2 (at' k _ n2 z2)
        rw [n] at hx; cases hx
    · rcases set_get hi q2 with ⟨e3, e4⟩ | ⟨n2, q2⟩
      · rw [e4] at m2
        obtain ⟨d, a, e1, e2, n, ob⟩ := nm (npl m2)
        rw [e3, set_self hσ] at z2
        rw [e2] at z2
        cases z2
        obtain ⟨x, hx⟩ := old j s1 _ q1 (Sl.plc_of_mut m1) (at' j _ n1 z1)
        rw [n] at hx; cases hx
      · exact E1.inj j k s1 t1 b hjk q1 q2 m1 m2 (at' j b n1 z1) (at' k b n2 z2)
  · obtain ⟨j, d, q, z⟩ := z
    rcases set_get hi q with ⟨rfl, e⟩ | ⟨ne, q⟩
    · obtain ⟨d, a, e1, e2, n, ob⟩ := nm (by rw [← e]; rfl)
      rw [set_self hσ, e2] at z
      cases z
      exact .inr n
    · rw [List.getElem?_set_ne (Ne.symm ne)] at z
      exact g.go.own b ⟨j, d, q, z⟩
  · rcases set_get hi q with ⟨rfl, e⟩ | ⟨ne, q⟩
    · rcases hs with ⟨d, rfl, _⟩ | ⟨d, a, rfl, _⟩ <;> cases e
    · exact g.go.inn j d q
  · rcases set_get hi q with ⟨rfl, e⟩ | ⟨ne, q⟩
    · rcases hs with ⟨d, rfl, _⟩ | ⟨d, a, rfl, _⟩ <;> cases e
    · exact g.go.bor j d q
  · obtain ⟨e1, d', h⟩ := g.go.kin j d q
    have ne : j ≠ i := fun e => by
      subst e
      rcases h with h | h
      · rw [hi] at h; cases h; cases hf
      · rw [hi] at h; cases h; cases hf
    refine ⟨List.getElem?_set_ne (Ne.symm ne), d', ?_⟩
    rcases h with h | h
    · exact .inl (set_put ne h)
    · exact .inr (set_put ne h)
  · obtain ⟨e1, h⟩ := g.go.kbo j d q
    have ne : j ≠ i := fun e => by subst e; rw [hi] at h; cases h; cases hf
    exact ⟨List.getElem?_set_ne (Ne.symm ne), set_put ne h⟩
  · obtain ⟨e1, h⟩ := g.go.kfx j d q
    have ne : j ≠ i := fun e => by subst e; rw [hi] at h; cases h; cases hf
    exact ⟨List.getElem?_set_ne (Ne.symm ne), set_put ne h⟩
end

/-! ### statements -/
inductive Out where
  | nx (ρ : En) | rt (r : Op) (ρ : En) | bk (ρ : En) | ct (ρ : En) | exc (c : Str) (ρ : En) | bad | rd (cs : List (Bool × PyData)) (ρ : En)
/-! a new tuple, some parts of it new things that nobody else holds -/
def Cm1 (K : PySem.W.Frag) (N : Addr → Prop) (F H : Hp) (v : V) : Bool × PyData → Prop
  | (true, d) => ∃ b, v = .ref b ∧ N b ∧ Ob K F H b d
  | (false, d) => Rp K F v d
def CmL (K : PySem.W.Frag) (N : Addr → Prop) (F H : Hp) : List V → List (Bool × PyData) → Prop
  | [], [] => True
  | v :: vs, c :: cs => Cm1 K N F H v c ∧ CmL K N F H vs cs
  | _, _ => False
def owV : List V → List (Bool × PyData) → List V
  | v :: vs, (true, _) :: cs => v :: owV vs cs
  | _ :: vs, (false, _) :: cs => owV vs cs
  | _, _ => []
theorem Cm1.imp {K : PySem.W.Frag} {N M : Addr → Prop} {F H : Hp} (h : ∀ b, N b → M b) {v : V} : ∀ {c : Bool × PyData}, Cm1 K N F H v c → Cm1 K M F H v c
  | (true, _), ⟨b, e, n, ob⟩ => ⟨b, e, h b n, ob⟩
  | (false, _), r => r
theorem CmL.imp {K : PySem.W.Frag} {N M : Addr → Prop} {F H : Hp} (h : ∀ b, N b → M b) : ∀ {vs : List V} {cs : List (Bool × PyData)}, CmL K N F H vs cs → CmL K M F H vs cs
  | [], [], _ => trivial
  | _ :: _, _ :: _, z => ⟨z.1.imp h, CmL.imp h z.2⟩
def RdR (K : PySem.W.Frag) (N : Addr → Prop) (F H : Hp) (v : V) (cs : List (Bool × PyData)) : Prop := ∃ t vs, v = .ref t ∧ SqP K F t vs ∧ CmL K N F H vs cs ∧ (owV vs cs).Nodup
theorem RdR.imp {K : PySem.W.Frag} {N M : Addr → Prop} {F H : Hp} (h : ∀ b, N b → M b) {v : V} {cs : List (Bool × PyData)} : RdR K N F H v cs → RdR K M F H v cs
  | ⟨t, vs, e, s, c, n⟩ => ⟨t, vs, e, s, c.imp h, n⟩
def RtR (K : PySem.W.Frag) (σ : St) (ρ : En) (H F' H' : Hp) (v : V) : Op → Prop
  | .v d => Rp K F' v d
  | .fr d => ∃ a, v = .ref a ∧ Ob K F' H' a d ∧ (H a = none ∨ own1 σ ρ a)
  | .pl _ => False
def PostS (K : PySem.W.Frag) (W : XW) (σ : St) (ρ : En) (F H : Hp) (o : Out) (D : Ends) : Prop :=
  match o with
  | .nx ρ' => ∀ σ' F' H', Go K σ ρ F H σ' ρ' F' H' → D.nx σ' H'
  | .bk ρ' => ∀ σ' F' H', Go K σ ρ F H σ' ρ' F' H' → D.bk σ' H'
  | .ct ρ' => ∀ σ' F' H', Go K σ ρ F H σ' ρ' F' H' → D.ct σ' H'
  | .rt r ρ' => ∀ v σ' F' H', Go K σ ρ F H σ' ρ' F' H' → RtR K σ ρ H F' H' v r → D.rt v H'
  | .rd cs ρ' => ∀ v σ' F' H', Go K σ ρ F H σ' ρ' F' H' → RdR K (fun b => H b = none ∨ own1 σ ρ b) F' H' v cs → D.rt v H'
  | .exc c ρ' => ∀ σ' F' H', Go K σ ρ F H σ' ρ' F' H' → W c σ' ρ' F' H'
  | .bad => False
structure DS (X : Cx) (W : XW) (st : Stmt) (f : En → Out) : Prop where
  ex : ∃ t, PS X st t ∧ ∀ (σ : St) (F H : Hp) (ρ : En) (D : Ends), EnvR X.K F H σ ρ → PostS X.K W σ ρ F H (f ρ) D → t D σ H
structure DSs (X : Cx) (W : XW) (st : List Stmt) (f : En → Out) : Prop where
  ex : ∃ t, PSs X st t ∧ ∀ (σ : St) (F H : Hp) (ρ : En) (D : Ends), EnvR X.K F H σ ρ → PostS X.K W σ ρ F H (f ρ) D → t D σ H
/-- behind an expression -/
def andS {α : Type} (m : En → Res α) (k : α → En → Out) : En → Out := fun ρ => match m ρ with
  | .ok a ρ' => k a ρ'
  | .exc c ρ' => .exc c ρ'
  | .bad => .bad
def seqS (f g : En → Out) : En → Out := fun ρ => match f ρ with
  | .nx ρ' => g ρ'
  | o => o
def sNext : En → Out := fun ρ => .nx ρ
theorem RtR.go {K : PySem.W.Frag} {σ σ1 : St} {ρ ρ1 : En} {F H F1 H1 F' H' : Hp} {v : V} {r : Op} (g : Go K σ ρ F H σ1 ρ1 F1 H1) (h : RtR K σ1 ρ1 H1 F' H' v r) : RtR K σ ρ H F' H' v r := by
  cases r with
  | v d => exact h
  | pl i => exact h
  | fr d =>
    obtain ⟨a, e, ob, z⟩ := h
    refine ⟨a, e, ob, ?_⟩
    rcases z with z | z
    · exact .inl (none_of_dom g.evo.dom z)
    · rcases g.own a z with y | y
      · exact .inr y
      · exact .inl y
theorem new_go {K : PySem.W.Frag} {σ σ1 : St} {ρ ρ1 : En} {F H F1 H1 : Hp} (g : Go K σ ρ F H σ1 ρ1 F1 H1) (b : Addr) (h : H1 b = none ∨ own1 σ1 ρ1 b) : H b = none ∨ own1 σ ρ b := by
  rcases h with h | h
  · exact .inl (none_of_dom g.evo.dom h)
  · rcases g.own b h with y | y
    · exact .inr y
    · exact .inl y
theorem PostS.go {K : PySem.W.Frag} {W : XW} {σ σ1 : St} {ρ ρ1 : En} {F H F1 H1 : Hp} {o : Out} {D : Ends} (g : Go K σ ρ F H σ1 ρ1 F1 H1) (h : PostS K W σ ρ F H o D) : PostS K W σ1 ρ1 F1 H1 o D := by
  cases o with
  | nx ρ' => exact fun σ' F' H' k => h σ' F' H' (g.trans k)
  | bk ρ' => exact fun σ' F' H' k => h σ' F' H' (g.trans k)
  | ct ρ' => exact fun σ' F' H' k => h σ' F' H' (g.trans k)
  | rt r ρ' => exact fun v σ' F' H' k z => h v σ' F' H' (g.trans k) (z.go g)
  | rd cs ρ' => exact fun v σ' F' H' k z => h v σ' F' H' (g.trans k) (z.imp (new_go g))
  | exc c ρ' => exact fun σ' F' H' k => h σ' F' H' (g.trans k)
  | bad => exact h
theorem PostS.expr {α : Type} {K : PySem.W.Frag} {W : XW} {σ : St} {ρ : En} {F H : Hp} {m : En → Res α} {k : α → En → Out} {D : Ends} {z : α → En → Hp → Hp → Prop} (h : PostS K W σ ρ F H (andS m k ρ) D)
    (hk : ∀ a ρ1 F1 H1, m ρ = .ok a ρ1 → GoE K σ ρ F H ρ1 F1 H1 → PostS K W σ ρ F H (k a ρ1) D → z a ρ1 F1 H1) : Post K W σ ρ F H (m ρ) z := by
  unfold andS at h
  cases e : m ρ with
  | ok a ρ1 => rw [e] at h; exact fun F1 H1 g => hk a ρ1 F1 H1 e g h
  | exc c ρ1 => rw [e] at h; exact fun F1 H1 g => h σ F1 H1 g.go
  | bad => rw [e] at h; exact h
section
variable {X : Cx} {W : XW} {pos : Pos} {e : Expr} {st : Stmt} {sts : List Stmt} {f : En → Res Op} {s1 s2 : En → Out}
theorem dss_nil : DSs X W [] sNext := ⟨_, pss_nil, fun σ F H ρ D E h => h σ F H (.refl E)⟩
theorem dss_cons (h1 : DS X W st s1) (h2 : DSs X W sts s2) : DSs X W (st :: sts) (seqS s1 s2) := by
  obtain ⟨t1, p1, q1⟩ := h1.ex
  obtain ⟨t2, p2, q2⟩ := h2.ex
  refine ⟨_, pss_cons p1 p2, fun σ F H ρ D E h => q1 σ F H ρ _ E ?_⟩
  unfold seqS at h
  cases e : s1 ρ with
  | nx ρ' =>
    rw [e] at h
    exact fun σ' F' H' g => q2 σ' F' H' ρ' D g.env (h.go g)
  | bk ρ' => rw [e] at h; exact h
  | ct ρ' => rw [e] at h; exact h
  | rt r ρ' => rw [e] at h; exact h
  | rd cs ρ' => rw [e] at h; exact h
  | exc c ρ' => rw [e] at h; exact h
  | bad => rw [e] at h; exact h
theorem dss_one (h1 : DS X W st s1) : DSs X W [st] s1 := by
  obtain ⟨t1, p1, q1⟩ := h1.ex
  exact ⟨_, pss_one p1, q1⟩
theorem ds_pass : DS X W (.Pass pos) sNext := ⟨_, ps_pass, fun σ F H ρ D E h => h σ F H (.refl E)⟩
theorem ds_doc {x j pos'} : DS X W (.Expr (.Constant (.str x) j pos) pos') sNext := ⟨_, ps_doc, fun σ F H ρ D E h => h σ F H (.refl E)⟩
def sBrk : En → Out := fun ρ => .bk ρ
def sCnt : En → Out := fun ρ => .ct ρ
theorem ds_break : DS X W (.Break pos) sBrk := ⟨_, ps_break, fun σ F H ρ D E h => h σ F H (.refl E)⟩
theorem ds_continue : DS X W (.Continue pos) sCnt := ⟨_, ps_continue, fun σ F H ρ D E h => h σ F H (.refl E)⟩
def sDrop (f : En → Res Op) : En → Out := andS f fun _ ρ => .nx ρ
theorem ds_expr (he : DE X W e f) (hs : swapsWith e none pos.line X.env = pure false := by rfl) : DS X W (.Expr e pos) (sDrop f) := by
  obtain ⟨t, p, q⟩ := he.ex
  exact ⟨_, ps_expr p hs, fun σ F H ρ D E h => q σ F H ρ _ E (h.expr fun o ρ1 F1 H1 _ g h1 v r => h1 σ F1 H1 g.go)⟩
/-- what is handed back -/
def rtO (o : Op) : En → Out := fun ρ => match o with
  | .v d => .rt (.v d) ρ
  | .fr d => .rt (.fr d) ρ
  | .pl i => match ρ[i]? with
    | some (.own d) => .rt (.fr d) (ρ.set i .no)
    | some (.inn (.list ds)) => .rt (.v (.list ds)) (ρ.set i (.fix (.list ds)))
    | some (.val d) => .rt (.v d) ρ
    | some (.fix d) => .rt (.v d) ρ
    | _ => .bad
def sRet (f : En → Res Op) : En → Out := andS f rtO
theorem goDrop {K : PySem.W.Frag} {σ : St} {ρ : En} {F H : Hp} {i : Nat} {d : PyData} (E : EnvR K F H σ ρ) (hi : ρ[i]? = some (.own d)) : GoE K σ ρ F H (ρ.set i .no) F H := by
  refine ⟨⟨.refl, ⟨by rw [List.length_set]; exact E.len, E.le, fun j t q => ?_, fun j k s1 t1 b hjk q1 q2 m1 m2 z1 z2 => ?_⟩, fun b z => ?_, fun j d q => ?_, fun j d q => ?_, fun j d q => ?_, fun j d q => ?_, fun j d q => ?_, List.length_set⟩, fun j d q => ?_⟩
  · rcases set_get hi q with ⟨rfl, rfl⟩ | ⟨ne, q⟩
    · obtain ⟨o, e1, _⟩ := E.sl _ _ hi; exact ⟨o, e1, trivial⟩
    · exact E.sl j t q
  · rcases set_get hi q1 with ⟨rfl, rfl⟩ | ⟨_, q1⟩
    · cases m1
    · rcases set_get hi q2 with ⟨rfl, rfl⟩ | ⟨_, q2⟩
      · cases m2
      · exact E.inj j k s1 t1 b hjk q1 q2 m1 m2 z1 z2
  · obtain ⟨j, d, q, z⟩ := z
    rcases set_get hi q with ⟨_, e⟩ | ⟨_, q⟩
    · cases e
    · exact .inl ⟨j, d, q, z⟩
  · rcases set_get hi q with ⟨_, e⟩ | ⟨_, q⟩
    · cases e
    · exact ⟨d, q⟩
  · rcases set_get hi q with ⟨_, e⟩ | ⟨_, q⟩
    · cases e
    · exact q
  · have ne : j ≠ i := fun e => by subst e; rw [hi] at q; cases q
    exact ⟨rfl, d, .inl (set_put ne q)⟩
  · have ne : j ≠ i := fun e => by subst e; rw [hi] at q; cases q
    exact ⟨rfl, set_put ne q⟩
  · have ne : j ≠ i := fun e => by subst e; rw [hi] at q; cases q
    exact ⟨rfl, set_put ne q⟩
  · rcases set_get hi q with ⟨_, e⟩ | ⟨_, q⟩
    · cases e
    · exact ⟨d, q⟩
theorem ds_ret (he : DE X W e f) : DS X W (.Return (some e) pos) (sRet f) := by
  obtain ⟨t, p, q⟩ := he.ex
  refine ⟨_, ps_ret p, fun σ F H ρ D E h => q σ F H ρ _ E (h.expr fun o ρ1 F1 H1 _ g h1 v r => ?_)⟩
  cases o with
  | v d => exact h1 v σ F1 H1 g.go r
  | fr d => obtain ⟨a, e, n, ob⟩ := r; exact h1 v σ F1 H1 g.go ⟨a, e, ob, .inl n⟩
  | pl i =>
    have r : σ[i]? = some (some v) := r
    unfold rtO at h1
    cases q1 : ρ1[i]? with
    | none => simp only [q1] at h1; exact h1.elim
    | some s =>
      simp only [q1] at h1
      obtain ⟨o, e1, e2⟩ := g.env.sl i s q1
      rw [r] at e1; cases e1
      cases s with
      | no => exact h1.elim
      | bor d => exact h1.elim
      | val d => obtain ⟨w, e3, rp⟩ := e2; cases e3; exact h1 v σ F1 H1 g.go rp
      | fix d => obtain ⟨w, e3, rp⟩ := e2; cases e3; exact h1 v σ F1 H1 g.go rp
      | own d =>
        obtain ⟨a, e3, ob⟩ := e2
        cases e3
        refine h1 _ σ F1 H1 (g.trans (goDrop g.env q1)).go ⟨a, rfl, ob, .inr ?_⟩
        obtain ⟨d0, q0⟩ := g.ow i d q1
        exact ⟨i, d0, q0, r⟩
      | inn d =>
        cases d with
        | list ds =>
          obtain ⟨a, xs, x1, hF, hH, g2, rp⟩ := goFast g.env q1 (.inr ⟨rfl, rfl⟩)
          rw [r] at x1; cases x1
          exact h1 _ σ _ H1 (g.trans g2).go rp
        | _ => exact h1.elim
def sRetN : En → Out := fun ρ => .rt (.v .none) ρ
theorem ds_retN : DS X W (.Return none pos) sRetN := ⟨_, ps_retN, fun σ F H ρ D E h => h _ σ F H (.refl E) .non⟩
def sIfS (t : En → Res Bool) (f g : En → Out) : En → Out := andS t fun b => if b = true then f else g
theorem ds_if {c : Expr} {b1 b2 : List Stmt} {t : En → Res Bool} (hc : DT X W c t) (ha : DSs X W b1 s1) (hb : DSs X W b2 s2) : DS X W (.If c b1 b2 pos) (sIfS t s1 s2) := by
  obtain ⟨tc, pc, qc⟩ := hc.ex
  obtain ⟨t1, p1, q1⟩ := ha.ex
  obtain ⟨t2, p2, q2⟩ := hb.ex
  refine ⟨_, ps_if pc p1 p2, fun σ F H ρ D E h => qc σ F H ρ _ E (h.expr fun b ρ1 F1 H1 _ g h1 => ?_)⟩
  cases b with
  | true => exact iteT (q1 σ F1 H1 ρ1 D g.env (h1.go g.go))
  | false => exact iteF (q2 σ F1 H1 ρ1 D g.env (h1.go g.go))
/-! ### stores -/
def put (i : Nat) (o : Op) : En → Res Unit := fun ρ => match o with
  | .v d => match ρ[i]? with
    | some s => if s.free = true then .ok () (ρ.set i (.val d)) else .bad
    | none => .bad
  | .fr d => match ρ[i]? with
    | some s => if s.free = true then .ok () (ρ.set i (.own d)) else .bad
    | none => .bad
  | .pl j => bnd (fz (.pl j)) (fun d ρ1 => match ρ1[i]? with
    | some s => if s.free = true then .ok () (ρ1.set i (.val d)) else .bad
    | none => .bad) ρ
def unS (m : En → Res Unit) : En → Out := andS m fun _ ρ => .nx ρ
def sAsg (i : Nat) (f : En → Res Op) : En → Out := unS (bnd f (put i))
theorem put_ok {K : PySem.W.Frag} {σ : St} {ρ ρ1 ρ2 : En} {F H F1 H1 : Hp} {i : Nat} {o : Op} {v : V} (E : EnvR K F H σ ρ) (g : GoE K σ ρ F H ρ1 F1 H1) (r : OdR K H F1 H1 σ v o) (h : put i o ρ1 = .ok () ρ2) : ∃ F2, Go K σ ρ F H (σ.set i (some v)) ρ2 F2 H1 := by
  cases o with
  | v d =>
    unfold put at h
    cases q : ρ1[i]? with
    | none => simp only [q] at h; cases h
    | some s =>
      simp only [q] at h
      split at h
      · rename_i hf; cases h; exact ⟨F1, goSet E g q hf (.inl ⟨d, rfl, r⟩)⟩
      · cases h
  | fr d =>
    unfold put at h
    cases q : ρ1[i]? with
    | none => simp only [q] at h; cases h
    | some s =>
      simp only [q] at h
      obtain ⟨a, e, n, ob⟩ := r
      split at h
      · rename_i hf; cases h; exact ⟨F1, goSet E g q hf (.inr ⟨d, a, rfl, e, n, ob⟩)⟩
      · cases h
  | pl j =>
    unfold put bnd at h
    cases q0 : fz (.pl j) ρ1 with
    | bad => simp only [q0] at h; cases h
    | exc c r => simp only [q0] at h; cases h
    | ok d ρ3 =>
      simp only [q0] at h
      obtain ⟨F3, g3, rp, _⟩ := fz_ok E g r q0
      cases q : ρ3[i]? with
      | none => simp only [q] at h; cases h
      | some s =>
        simp only [q] at h
        split at h
        · rename_i hf; cases h; exact ⟨F3, goSet E g3 q hf (.inl ⟨d, rfl, rp⟩)⟩
        · cases h
theorem put_noexc {i : Nat} {o : Op} {ρ ρ' : En} {c : Str} : put i o ρ ≠ .exc c ρ' := by
  intro h
  cases o with
  | v d =>
    unfold put at h
    cases q : ρ[i]? with
    | none => simp only [q] at h; cases h
    | some s =>
      simp only [q] at h
      split at h
      · cases h
      · cases h
  | fr d =>
    unfold put at h
    cases q : ρ[i]? with
    | none => simp only [q] at h; cases h
    | some s =>
      simp only [q] at h
      split at h
      · cases h
      · cases h
  | pl j =>
    unfold put bnd at h
    cases q0 : fz (.pl j) ρ with
    | bad => simp only [q0] at h; cases h
    | exc c r =>
      unfold fz at q0
      cases q2 : ρ[j]? with
      | none => simp only [q2] at q0; cases q0
      | some s => simp only [q2] at q0; cases s <;> first | cases q0 | (rename_i d; cases d <;> cases q0)
    | ok d ρ3 =>
      simp only [q0] at h
      split at h
      · split at h <;> cases h
      · cases h
theorem asg_core {te : TE} {i : Nat} {f : En → Res Op} (sa : ∀ (σ : St) (F H : Hp) (ρ : En) (Q : VK), EnvR X.K F H σ ρ → Post X.K W σ ρ F H (f ρ) (fun o _ F' H' => ∀ v, OdR X.K H F' H' σ v o → Q v H') → te σ H Q)
    (σ : St) (F H : Hp) (ρ : En) (D : Ends) (E : EnvR X.K F H σ ρ) (h : PostS X.K W σ ρ F H (sAsg i f ρ) D) : tAsg te (gName i) D σ H := by
  refine sa σ F H ρ _ E ?_
  unfold sAsg unS andS bnd at h
  cases e : f ρ with
  | bad => simp only [e] at h; exact h
  | exc c ρ1 => simp only [e] at h; exact fun F1 H1 g => h σ F1 H1 g.go
  | ok o ρ1 =>
    simp only [e] at h
    intro F1 H1 g v r
    cases q : put i o ρ1 with
    | bad => simp only [q] at h; exact h.elim
    | exc c ρ2 => exact absurd q put_noexc
    | ok u ρ2 =>
      simp only [q] at h
      obtain ⟨F2, k⟩ := put_ok E g r q
      exact h _ F2 H1 k
theorem ds_asg {i : Nat} {x : Str} {pos' : Pos} (hN : X.N.Nodup) (hi : X.N[i]? = some x) (hx : Loc X.env.scope x) (he : DE X W e f) (hs : swapsWith e (some (.Name x pos')) pos.line X.env = pure false := by rfl) (hf : X.fn x = true ∨ X.env.scope.names.lookup x = some .local := by first | exact .inl rfl | exact .inr rfl | assumption) :
    DS X W (.Assign [.Name x pos'] e pos) (sAsg i f) := by
  obtain ⟨t, p, q⟩ := he.ex
  exact ⟨_, ps_set hN hi hx p hs hf, asg_core q⟩
/-! ### targets -/
/-- only these slots are other ones -/
def But (is : List Nat) (σ σ' : St) (ρ ρ' : En) : Prop := σ'.length = σ.length ∧ ρ'.length = ρ.length ∧ ∀ j, j ∉ is → σ'[j]? = σ[j]? ∧ ρ'[j]? = ρ[j]?
theorem But.trans {is : List Nat} {σ σ1 σ2 : St} {ρ ρ1 ρ2 : En} (a : But is σ σ1 ρ ρ1) (b : But is σ1 σ2 ρ1 ρ2) : But is σ σ2 ρ ρ2 :=
  ⟨b.1.trans a.1, b.2.1.trans a.2.1, fun j h => ⟨(b.2.2 j h).1.trans (a.2.2 j h).1, (b.2.2 j h).2.trans (a.2.2 j h).2⟩⟩
theorem But.mono {is js : List Nat} {σ σ1 : St} {ρ ρ1 : En} (a : But is σ σ1 ρ ρ1) (h : ∀ i ∈ is, i ∈ js) : But js σ σ1 ρ ρ1 := ⟨a.1, a.2.1, fun j n => a.2.2 j fun z => n (h j z)⟩
structure DG (X : Cx) (is : List Nat) (tg : Expr) (f : PyData → En → Res Unit) : Prop where
  ex : ∃ t, PG X tg t ∧ ∀ (σ : St) (F H : Hp) (ρ : En) (v : V) (d : PyData) (Q : St → Hp → Prop), EnvR X.K F H σ ρ → Rp X.K F v d → (∃ ρ', f d ρ = .ok () ρ' ∧ ∀ σ', Go X.K σ ρ F H σ' ρ' F H → But is σ σ' ρ ρ' → Q σ' H) → t v σ H Q
structure DGs (X : Cx) (is : List Nat) (tg : List Expr) (f : List PyData → En → Res Unit) : Prop where
  ex : ∃ t, PGs X tg t ∧ ∀ (σ : St) (F H : Hp) (ρ : En) (v : List V) (d : List PyData) (Q : St → Hp → Prop), EnvR X.K F H σ ρ → RpL X.K F v d → (∃ ρ', f d ρ = .ok () ρ' ∧ ∀ σ', Go X.K σ ρ F H σ' ρ' F H → But is σ σ' ρ ρ' → Q σ' H) → t v σ H Q
def gN (i : Nat) : PyData → En → Res Unit := fun d => put i (.v d)
def gT (n : Nat) (g : List PyData → En → Res Unit) : PyData → En → Res Unit := fun d => match d with
  | .tuple ds => if ds.length = n then g ds else fun _ => .bad
  | _ => fun _ => .bad
def gNl : List PyData → En → Res Unit := fun ds ρ => match ds with
  | [] => .ok () ρ
  | _ => .bad
def gCn (g : PyData → En → Res Unit) (gs : List PyData → En → Res Unit) : List PyData → En → Res Unit := fun ds => match ds with
  | d :: ds => bnd (g d) fun _ => gs ds
  | [] => fun _ => .bad
theorem dg_name {i : Nat} {x : Str} (hN : X.N.Nodup) (hi : X.N[i]? = some x) (hx : Loc X.env.scope x) (hf : X.fn x = true ∨ X.env.scope.names.lookup x = some .local := by first | exact .inl rfl | exact .inr rfl | assumption) : DG X [i] (.Name x pos) (gN i) := by
  refine ⟨_, pg_name hN hi hx hf, fun σ F H ρ v d Q E r ⟨ρ', e, h⟩ => ?_⟩
  unfold gN put at e
  cases q : ρ[i]? with
  | none => simp only [q] at e; cases e
  | some s =>
    simp only [q] at e
    split at e
    · rename_i hf; cases e
      refine h _ (goSet E (.refl E) q hf (.inl ⟨d, rfl, r⟩)) ⟨List.length_set, List.length_set, fun j hj => ?_⟩
      have ne : j ≠ i := fun e => hj (by rw [e]; exact List.mem_singleton_self _)
      exact ⟨List.getElem?_set_ne (Ne.symm ne), List.getElem?_set_ne (Ne.symm ne)⟩
    · cases e
theorem dgs_nil : DGs X [] [] gNl := by
  refine ⟨_, pgs_nil, fun σ F H ρ v d Q E r ⟨ρ', e, h⟩ => ?_⟩
  cases r with
  | nil => cases e; exact ⟨rfl, h σ (.refl E) ⟨rfl, rfl, fun _ _ => ⟨rfl, rfl⟩⟩⟩
  | cons _ _ => cases e
theorem dgs_cons {es : List Expr} {is js : List Nat} {g : PyData → En → Res Unit} {gs : List PyData → En → Res Unit} (h1 : DG X is e g) (h2 : DGs X js es gs) (hs : (assignEach (e :: es) X.env).map (·.2) = assign e X.env :: (assignEach es X.env).map (·.2) := by rfl) : DGs X (is ++ js) (e :: es) (gCn g gs) := by
  obtain ⟨t1, p1, q1⟩ := h1.ex
  obtain ⟨t2, p2, q2⟩ := h2.ex
  refine ⟨_, pgs_cons p1 p2 hs, fun σ F H ρ v d Q E r ⟨ρ', e, h⟩ => ?_⟩
  cases r with
  | nil => cases e
  | @cons v vs d ds r1 r2 =>
    unfold gCn bnd at e
    cases q : g d ρ with
    | bad => simp only [q] at e; cases e
    | exc c r => simp only [q] at e; cases e
    | ok u ρ1 =>
      simp only [q] at e
      exact ⟨v, vs, rfl, q1 σ F H ρ v d _ E r1 ⟨ρ1, q, fun σ1 g1 b1 => q2 σ1 F H ρ1 vs ds _ g1.env r2 ⟨ρ', e, fun σ2 g2 b2 => h σ2 (g1.trans g2) ((b1.mono fun _ m => List.mem_append_left _ m).trans (b2.mono fun _ m => List.mem_append_right _ m))⟩⟩⟩
theorem dg_tup {es : List Expr} {is : List Nat} {k n : Nat} {gs : List PyData → En → Res Unit} (hc : X.calm = true) (h : DGs X is es gs) (hn : (assignEach es X.env).length = n := by rfl) (hst : (assignEach es X.env).findIdx? (·.1) = none := by rfl) : DG X is (.Tuple es k pos) (gT n gs) := by
  obtain ⟨t, p, q⟩ := h.ex
  refine ⟨_, pg_tup hc p hn hst, fun σ F H ρ v d Q E r ⟨ρ', e, h⟩ => ?_⟩
  cases r with
  | @tup a xs ds s r =>
    have e : (if ds.length = n then gs ds else fun _ => .bad) ρ = .ok () ρ' := e
    by_cases hl : ds.length = n
    · rw [if_pos hl] at e
      exact ⟨a, xs, rfl, same_sqT E.le s.sq, r.length.trans hl, q σ F H ρ xs ds Q E r ⟨ρ', e, h⟩⟩
    · rw [if_neg hl] at e; cases e
  | non => cases e
  | bl _ => cases e
  | int _ => cases e
  | str _ => cases e
  | lst _ _ => cases e
  | dic _ _ => cases e
  | dicN _ _ _ => cases e
def sAsgT (g : PyData → En → Res Unit) (f : En → Res Op) : En → Out := unS (bnd f fun o => bnd (fz o) g)
theorem ds_asgT {es : List Expr} {k : Nat} {pt : Pos} {g : PyData → En → Res Unit} {is : List Nat} (hg : DG X is (.Tuple es k pt) g) (he : DE X W e f) (hs : swapsWithSole [.Tuple es k pt] e pos.line X.env = pure false := by rfl) (hw : swappedStores [.Tuple es k pt] e X.env = pure none := by rfl)
    (h1 : (assignEach [.Tuple es k pt] X.env).map (·.2) = [assign (.Tuple es k pt) X.env] := by rfl) (noexc : ∀ d ρ c ρ', g d ρ ≠ .exc c ρ') : DS X W (.Assign [.Tuple es k pt] e pos) (sAsgT g f) := by
  obtain ⟨t1, p1, q1⟩ := hg.ex
  obtain ⟨t2, p2, q2⟩ := he.ex
  refine ⟨_, ps_asg p2 p1 hs hw h1, fun σ F H ρ D E h => q2 σ F H ρ _ E ?_⟩
  unfold sAsgT unS andS bnd at h
  cases e : f ρ with
  | bad => simp only [e] at h; exact h
  | exc c ρ1 => simp only [e] at h; exact fun F1 H1 g => h σ F1 H1 g.go
  | ok o ρ1 =>
    simp only [e] at h
    intro F1 H1 g1 v r
    cases q : fz o ρ1 with
    | bad => simp only [bnd, q] at h; exact h.elim
    | exc c ρ2 =>
      simp only [bnd, q] at h
      have := (show put 0 (.pl 0) ρ1 = put 0 (.pl 0) ρ1 from rfl)
      cases o with
      | v d => cases q
      | fr d => cases d <;> cases q
      | pl j =>
        unfold fz at q
        cases q2 : ρ1[j]? with
        | none => simp only [q2] at q; cases q
        | some s => simp only [q2] at q; cases s <;> first | cases q | (rename_i d; cases d <;> cases q)
    | ok d ρ2 =>
      simp only [bnd, q] at h
      obtain ⟨F2, g2, rp, _⟩ := fz_ok E g1 r q
      cases q3 : g d ρ2 with
      | bad => simp only [q3] at h; exact h.elim
      | exc c ρ3 => exact absurd q3 (noexc _ _ _ _)
      | ok u ρ3 =>
        simp only [q3] at h
        exact q1 σ F2 H1 ρ2 v d _ g2.env rp ⟨ρ3, q3, fun σ' g3 _ => h σ' F2 H1 (g2.go.trans g3)⟩
theorem gN_noexc {i : Nat} {d : PyData} {ρ ρ' : En} {c : Str} : gN i d ρ ≠ .exc c ρ' := put_noexc
theorem gCn_noexc {g : PyData → En → Res Unit} {gs : List PyData → En → Res Unit} (h1 : ∀ d ρ c ρ', g d ρ ≠ .exc c ρ') (h2 : ∀ d ρ c ρ', gs d ρ ≠ .exc c ρ') : ∀ d ρ c ρ', gCn g gs d ρ ≠ .exc c ρ' := by
  intro d ρ c ρ' h
  cases d with
  | nil => cases h
  | cons d ds =>
    unfold gCn bnd at h
    cases q : g d ρ with
    | bad => simp only [q] at h; cases h
    | exc c r => exact h1 _ _ _ _ q
    | ok u ρ1 => simp only [q] at h; exact h2 _ _ _ _ h
theorem gNl_noexc : ∀ d ρ c ρ', gNl d ρ ≠ .exc c ρ' := by
  intro d ρ c ρ' h
  cases d <;> cases h
theorem gT_noexc {n : Nat} {gs : List PyData → En → Res Unit} (h2 : ∀ d ρ c ρ', gs d ρ ≠ .exc c ρ') : ∀ d ρ c ρ', gT n gs d ρ ≠ .exc c ρ' := by
  intro d ρ c ρ' h
  unfold gT at h
  split at h
  · split at h
    · exact h2 _ _ _ _ h
    · cases h
  · cases h
/-! ### things changed by their methods -/
/-- what a method does: its answer, and the list behind it -/
def Mt (K : PySem.W.Frag) (r : V → List V → Hp → VK → Prop) (p : List PyData → List PyData → Option (PyData × List PyData)) : Prop :=
  ∀ F H a xs ds vs args rv ds' Q, Same F H → H a = some (.lst xs) → RpL K F xs ds → RpL K F vs args → p ds args = some (rv, ds') → (∀ v xs', Rp K F v rv → RpL K F xs' ds' → Q v (upd H a (.lst xs'))) → r (.ref a) vs H Q
def mutP (j : Nat) (p : List PyData → Option (PyData × List PyData)) : En → Res Op := fun ρ => match ρ[j]? with
  | some (.own (.list ds)) => (match p ds with
    | some (r, ds') => .ok (.v r) (ρ.set j (.own (.list ds')))
    | none => .bad)
  | some (.inn (.list ds)) => (match p ds with
    | some (r, ds') => .ok (.v r) (ρ.set j (.inn (.list ds')))
    | none => .bad)
  | _ => .bad
/-- slot j has a list that may be changed -/
def sVL (j : Nat) : En → Res Unit := fun ρ => match ρ[j]? with
  | some (.own (.list _)) => .ok () ρ
  | some (.inn (.list _)) => .ok () ρ
  | _ => .bad
def sMt (j : Nat) (p : List PyData → List PyData → Option (PyData × List PyData)) (g : En → Res (List Op)) : En → Res Op := bnd (sVL j) fun _ => bnd g fun os => bnd (fzs os) fun args => mutP j fun ds => p ds args
theorem sVL_ok {j : Nat} {ρ : En} {K : PySem.W.Frag} {σ : St} {F H : Hp} {W : XW} {β : Type} {k : Unit → En → Res β} {Z : β → En → Hp → Hp → Prop} (E : EnvR K F H σ ρ) (h : Post K W σ ρ F H (bnd (sVL j) k ρ) Z) : (∃ a xs, σ[j]? = some (some (.ref a)) ∧ H a = some (.lst xs)) ∧ Post K W σ ρ F H (k () ρ) Z := by
  unfold bnd sVL at h
  cases q : ρ[j]? with
  | none => simp only [q] at h; exact h.elim
  | some s =>
    simp only [q] at h
    obtain ⟨o, e1, e2⟩ := E.sl j s q
    cases s with
    | no => exact h.elim
    | val d => exact h.elim
    | fix d => exact h.elim
    | bor d => exact h.elim
    | own d =>
      cases d with
      | list ds => obtain ⟨a, rfl, xs, hH, _⟩ := e2; exact ⟨⟨a, xs, e1, hH⟩, h⟩
      | _ => exact h.elim
    | inn d =>
      cases d with
      | list ds => obtain ⟨a, rfl, xs, hH, _⟩ := e2; exact ⟨⟨a, xs, e1, hH⟩, h⟩
      | _ => exact h.elim
theorem mutP_ok {K : PySem.W.Frag} {σ : St} {ρ0 ρ : En} {F0 H0 F H : Hp} {W : XW} {j : Nat} {p : List PyData → Option (PyData × List PyData)} {R : V → Prop} {v : V} {Q : VK} (g : GoE K σ ρ0 F0 H0 ρ F H)
    (hr : ∀ a xs ds rv ds', H a = some (.lst xs) → RpL K F xs ds → p ds = some (rv, ds') → (∀ v xs', Rp K F v rv → RpL K F xs' ds' → Q v (upd H a (.lst xs'))) → R (.ref a))
    (hσ : σ[j]? = some (some v)) (h : Post K W σ ρ0 F0 H0 (mutP j p ρ) (fun o _ F' H' => ∀ v, OdR K H0 F' H' σ v o → Q v H')) : R v := by
  have E := g.env
  unfold mutP at h
  cases q : ρ[j]? with
  | none => simp only [q] at h; exact h.elim
  | some s =>
    simp only [q] at h
    have fin : ∀ (ds : List PyData) (s' : List PyData → Sl), (∀ ds', (s = .own (.list ds) ∧ s' ds' = .own (.list ds')) ∨ (s = .inn (.list ds) ∧ s' ds' = .inn (.list ds'))) → Post K W σ ρ0 F0 H0 (match p ds with | some (r, ds') => Res.ok (.v r) (ρ.set j (s' ds')) | none => .bad) (fun o _ F' H' => ∀ v, OdR K H0 F' H' σ v o → Q v H') → R v := by
      intro ds s' hs h
      obtain ⟨o, e1, e2⟩ := E.sl j s q
      rw [hσ] at e1; cases e1
      have ob : ∃ a, v = .ref a ∧ Ob K F H a (.list ds) := by
        rcases hs [] with ⟨rfl, _⟩ | ⟨rfl, _⟩
        · obtain ⟨a, e3, ob⟩ := e2; cases e3; exact ⟨a, rfl, ob⟩
        · obtain ⟨a, e3, ob⟩ := e2; cases e3; exact ⟨a, rfl, ob⟩
      obtain ⟨a, rfl, xs, hH, hF, hx⟩ := ob
      cases q2 : p ds with
      | none => simp only [q2] at h; exact h.elim
      | some rd =>
        obtain ⟨rv, ds'⟩ := rd
        simp only [q2] at h
        exact hr a xs ds rv ds' hH hx q2 fun v xs' rp rx => h F (upd H a (.lst xs')) (g.trans (goPut E q (hs ds') hσ rx)) v rp
    cases s with
    | no => exact h.elim
    | val d => exact h.elim
    | fix d => exact h.elim
    | bor d => exact h.elim
    | own d =>
      cases d with
      | list ds => exact fin ds (fun ds' => .own (.list ds')) (fun ds' => .inl ⟨rfl, rfl⟩) h
      | _ => exact h.elim
    | inn d =>
      cases d with
      | list ds => exact fin ds (fun ds' => .inn (.list ds')) (fun ds' => .inr ⟨rfl, rfl⟩) h
      | _ => exact h.elim
theorem de_mt {o : Expr} {es : List Expr} {name : Str} {id : String} {j : Nat} {apos : Pos} {g : En → Res (List Op)} {p : List PyData → List PyData → Option (PyData × List PyData)} {r : V → List V → Hp → VK → Prop} (slot : Slot "list" name id) (hty : typeOf (.builtin id) = pure (.type "method_descriptor")) (hm : MtR X id r) (hr : Mt X.K r p) (ho : PE X o (tVar j)) (ha : DA X W (e :: es) g)
    (hbase : attributeBase o name X.env (eval o X.env) = eval o X.env := by rfl)
    (hfew : ((backTo pos (starEach (e :: es) X.env)).all (fun x => !x.1) && (backToKw pos (keywordEach [] X.env)).all (fun x => x.1.isSome)
      && decide ((e :: es).length + ([] : List Keyword).length + (if ([] : List Keyword).isEmpty then 0 else 1) < 30)) = true := by rfl)
    (hline : (apos.endLine == pos.line) = true := by rfl) (hs : starEach (e :: es) X.env = (false, eval e X.env) :: starEach es X.env := by rfl) (hplain : (backTo pos (starEach es X.env)).any (·.1) = false := by rfl) :
    DE X W (.Call (.Attribute o name apos) (e :: es) [] pos) (sMt j p g) := by
  obtain ⟨ta, pa, sa⟩ := ha.ex
  refine ⟨_, pe_bm PySem.F.plainAttrs_list slot hty hm ho pa hbase hfew hline hs hplain, fun σ F H ρ Q E h => ?_⟩
  obtain ⟨⟨a, xs, hσ, hH⟩, h⟩ := sVL_ok E h
  refine ⟨.ref a, hσ, .inl ⟨rfl, xs, .inl (.inl hH)⟩, sa σ F H ρ _ E (h.fst fun os ρ1 F1 H1 eq g1 h1 vs ods => ?_)⟩
  obtain ⟨ds, ρ2, F2, _, g2, rp, h2⟩ := post_fzs E g1 ods h1
  exact mutP_ok (R := fun v => r v vs H1 Q) g2 (fun a xs ds' rv ds2 hH hx hp q => hr F2 H1 a xs ds' vs ds rv ds2 Q g2.env.le hH hx rp hp q) hσ h2
theorem de_mt0 {o : Expr} {name : Str} {id : String} {j : Nat} {apos : Pos} {p : List PyData → List PyData → Option (PyData × List PyData)} {r : V → List V → Hp → VK → Prop} (slot : Slot "list" name id) (hty : typeOf (.builtin id) = pure (.type "method_descriptor")) (hm : MtR X id r) (hr : Mt X.K r p) (ho : PE X o (tVar j))
    (hbase : attributeBase o name X.env (eval o X.env) = eval o X.env := by rfl) (hline : (apos.endLine == pos.line) = true := by rfl) :
    DE X W (.Call (.Attribute o name apos) [] [] pos) (sMt j p sNil) := by
  refine ⟨_, pe_bm0 PySem.F.plainAttrs_list slot hty hm ho hbase hline, fun σ F H ρ Q E h => ?_⟩
  obtain ⟨⟨a, xs, hσ, hH⟩, h⟩ := sVL_ok E h
  refine ⟨.ref a, hσ, .inl ⟨rfl, xs, .inl (.inl hH)⟩, ?_⟩
  exact mutP_ok (R := fun v => r v [] H Q) (.refl E) (fun a xs ds' rv ds2 hH hx hp q => hr F H a xs ds' [] [] rv ds2 Q E.le hH hx .nil hp q) hσ h
def pApp : List PyData → List PyData → Option (PyData × List PyData)
  | ds, [d] => if ds.length < sizeLine then some (.none, ds ++ [d]) else none
  | _, _ => none
theorem mt_app {K : PySem.W.Frag} : Mt K rAppend pApp := by
  intro F H a xs ds vs args rv ds' Q le hH rx ra hp q
  unfold pApp at hp
  split at hp
  · split at hp
    · rename_i hl
      cases hp
      cases ra with
      | cons r1 r2 =>
        cases r2
        exact ⟨a, xs, _, rfl, rfl, hH, by rw [rx.length]; exact hl, q _ _ .non (rx.append (.cons r1 .nil))⟩
    · cases hp
  · cases hp
def pIns : List PyData → List PyData → Option (PyData × List PyData)
  | ds, [.int i, d] => if ds.length < sizeLine ∧ 0 ≤ i ∧ i < 2 ^ 63 then some (.none, ds.take i.toNat ++ [d] ++ ds.drop i.toNat) else none
  | _, _ => none
theorem mt_ins {K : PySem.W.Frag} : Mt K (fun x vs H Q => ∃ (l : Addr) (xs : List V) (i : Int) (y : V), x = .ref l ∧ vs = [.int i, y] ∧ H l = some (.lst xs) ∧ xs.length < sizeLine ∧ 0 ≤ i ∧ i < 2 ^ 63 ∧
    Q .non (upd H l (.lst (xs.take i.toNat ++ [y] ++ xs.drop i.toNat)))) pIns := by
  intro F H a xs ds vs args rv ds' Q le hH rx ra hp q
  unfold pIns at hp
  split at hp
  · split at hp
    · rename_i hl
      cases hp
      cases ra with
      | cons r1 r2 =>
        cases r1
        cases r2 with
        | cons r2 r3 =>
          cases r3
          exact ⟨a, xs, _, _, rfl, rfl, hH, by rw [rx.length]; exact hl.1, hl.2.1, hl.2.2, q _ _ .non (((rx.take _).append (.cons r2 .nil)).append (rx.drop _))⟩
    · cases hp
  · cases hp
def pRev : List PyData → List PyData → Option (PyData × List PyData)
  | ds, [] => some (.none, ds.reverse)
  | _, _ => none
theorem mt_rev {K : PySem.W.Frag} : Mt K rReverse pRev := by
  intro F H a xs ds vs args rv ds' Q le hH rx ra hp q
  unfold pRev at hp
  split at hp
  · cases hp
    cases ra
    exact ⟨a, xs, rfl, rfl, hH, q _ _ .non rx.reverse⟩
  · cases hp
def pClr : List PyData → List PyData → Option (PyData × List PyData)
  | _, [] => some (.none, [])
  | _, _ => none
theorem mt_clr {K : PySem.W.Frag} : Mt K rClear pClr := by
  intro F H a xs ds vs args rv ds' Q le hH rx ra hp q
  unfold pClr at hp
  split at hp
  · cases hp
    cases ra
    exact ⟨a, xs, rfl, rfl, hH, q _ _ .non .nil⟩
  · cases hp
theorem RpL.dropLast {K : PySem.W.Frag} {F : Hp} {vs : List V} {ds : List PyData} (r : RpL K F vs ds) : RpL K F vs.dropLast ds.dropLast := by
  rw [List.dropLast_eq_take, List.dropLast_eq_take, r.length]
  exact r.take _
theorem RpL.eraseIdx {K : PySem.W.Frag} {F : Hp} : ∀ {vs : List V} {ds : List PyData} (k : Nat), RpL K F vs ds → RpL K F (vs.eraseIdx k) (ds.eraseIdx k)
  | _, _, _, .nil => .nil
  | _, _, 0, .cons _ t => t
  | _, _, k + 1, .cons h t => .cons h (t.eraseIdx k)
def pPop : List PyData → List PyData → Option (PyData × List PyData)
  | ds, [] => (ds[ds.length - 1]?).map fun d => (d, ds.dropLast)
  | _, _ => none
theorem mt_popD {K : PySem.W.Frag} : Mt K rPop pPop := by
  intro F H a xs ds vs args rv ds' Q le hH rx ra hp q
  unfold pPop at hp
  split at hp
  · cases e : ds[ds.length - 1]? with
    | none => rw [e] at hp; cases hp
    | some d =>
      rw [e] at hp
      cases hp
      cases ra
      obtain ⟨v, e1, r1⟩ := rx.get e
      exact ⟨a, xs, v, rfl, rfl, hH, by rw [rx.length]; exact e1, q _ _ r1 rx.dropLast⟩
  · cases hp
def pPopAt : List PyData → List PyData → Option (PyData × List PyData)
  | ds, [.int i] => if -(2 ^ 63) ≤ i ∧ i < 2 ^ 63 then (seqIndex? i ds.length).bind fun k => (ds[k]?).map fun d => (d, ds.eraseIdx k) else none
  | _, _ => none
theorem mt_popAtD {K : PySem.W.Frag} : Mt K rPopAt pPopAt := by
  intro F H a xs ds vs args rv ds' Q le hH rx ra hp q
  unfold pPopAt at hp
  split at hp
  · rename_i i
    split at hp
    · rename_i hb
      cases e0 : seqIndex? i ds.length with
      | none => rw [e0] at hp; cases hp
      | some k =>
        rw [e0] at hp
        cases e : ds[k]? with
        | none => simp only [Option.bind_some, e] at hp; cases hp
        | some d =>
          simp only [Option.bind_some, e] at hp
          cases hp
          cases ra with
          | cons r1 r2 =>
            cases r1
            cases r2
            obtain ⟨v, e1, r1⟩ := rx.get e
            exact ⟨a, xs, i, k, v, rfl, rfl, hH, hb.1, hb.2, by rw [rx.length]; exact e0, e1, q _ _ r1 (rx.eraseIdx k)⟩
    · cases hp
  · cases hp
/-- x.extend(y): y a new list -/
def sExt (j : Nat) (f : En → Res Op) : En → Res Op := bnd (sVL j) fun _ => bnd f fun o => match o with
  | .fr (.list es) => mutP j fun ds => if ds.length + es.length ≤ sizeLine then some (.none, ds ++ es) else none
  | _ => fun _ => .bad
theorem de_ext {o : Expr} {j : Nat} {apos : Pos} {f : En → Res Op} (ho : PE X o (tVar j)) (ha : DE X W e f)
    (hbase : attributeBase o "extend" X.env (eval o X.env) = eval o X.env := by rfl)
    (hfew : ((backTo pos (starEach [e] X.env)).all (fun x => !x.1) && (backToKw pos (keywordEach [] X.env)).all (fun x => x.1.isSome)
      && decide ([e].length + ([] : List Keyword).length + (if ([] : List Keyword).isEmpty then 0 else 1) < 30)) = true := by rfl)
    (hline : (apos.endLine == pos.line) = true := by rfl) (hs : starEach [e] X.env = (false, eval e X.env) :: starEach [] X.env := by rfl) (hplain : (backTo pos (starEach [] X.env)).any (·.1) = false := by rfl) :
    DE X W (.Call (.Attribute o "extend" apos) [e] [] pos) (sExt j f) := by
  obtain ⟨ta, pa, sa⟩ := ha.ex
  refine ⟨_, pe_bm PySem.F.plainAttrs_list PySem.F.slot_list_extend PySem.F.type_list_extend mt_extend ho (pa_cons pa pa_nil hs) hbase hfew hline hs hplain, fun σ F H ρ Q E h => ?_⟩
  obtain ⟨⟨a, xs, hσ, hH⟩, h⟩ := sVL_ok E h
  refine ⟨.ref a, hσ, .inl ⟨rfl, xs, .inl (.inl hH)⟩, sa σ F H ρ _ E (h.fst fun o1 ρ1 F1 H1 eq g1 h1 v1 r1 => ?_)⟩
  show rExtend (.ref a) [v1] H1 Q
  cases o1 with
  | v d => exact h1.elim
  | pl i => exact h1.elim
  | fr d =>
    cases d with
    | list es =>
      obtain ⟨b, rfl, nb, ys, hb, hbF, ry⟩ := r1
      refine mutP_ok (R := fun v => rExtend v [.ref b] H1 Q) g1 (fun a' xs' ds rv ds' hH' rx hp q => ?_) hσ h1
      split at hp
      · rename_i hl
        cases hp
        exact ⟨a', b, xs', ys, rfl, rfl, hH', hb, by rw [rx.length, ry.length]; exact hl, q _ _ .non (rx.append ry)⟩
      · cases hp
    | _ => exact h1.elim
end
end Py
end L2

namespace L2
namespace Py
open PySem PySem.Spec PyProof.Rows
section
variable {X : Cx} {W : XW} {pos : Pos} {e i : Expr} {f fi : En → Res Op}
/-! ### x[i] = e -/
def mutS (j : Nat) (p : List PyData → Option (List PyData)) : En → Res Unit := fun ρ => match ρ[j]? with
  | some (.own (.list ds)) => (match p ds with
    | some ds' => .ok () (ρ.set j (.own (.list ds')))
    | none => .bad)
  | some (.inn (.list ds)) => (match p ds with
    | some ds' => .ok () (ρ.set j (.inn (.list ds')))
    | none => .bad)
  | _ => .bad
theorem mutS_ok {K : PySem.W.Frag} {σ : St} {ρ ρ' : En} {F H : Hp} {j : Nat} {p : List PyData → Option (List PyData)} (E : EnvR K F H σ ρ) (h : mutS j p ρ = .ok () ρ') :
    ∃ a xs ds ds', σ[j]? = some (some (.ref a)) ∧ H a = some (.lst xs) ∧ RpL K F xs ds ∧ p ds = some ds' ∧ ∀ xs', RpL K F xs' ds' → GoE K σ ρ F H ρ' F (upd H a (.lst xs')) := by
  unfold mutS at h
  cases q : ρ[j]? with
  | none => simp only [q] at h; cases h
  | some s =>
    simp only [q] at h
    obtain ⟨o, e1, e2⟩ := E.sl j s q
    cases s with
    | no => cases h
    | val d => cases h
    | fix d => cases h
    | bor d => cases h
    | own d =>
      cases d with
      | list ds =>
        obtain ⟨a, rfl, xs, hH, hF, hx⟩ := e2
        cases q2 : p ds with
        | none => simp only [q2] at h; cases h
        | some ds' =>
          simp only [q2] at h
          cases h
          exact ⟨a, xs, ds, ds', e1, hH, hx, q2, fun xs' r => goPut E q (.inl ⟨rfl, rfl⟩) e1 r⟩
      | _ => cases h
    | inn d =>
      cases d with
      | list ds =>
        obtain ⟨a, rfl, xs, hH, hF, hx⟩ := e2
        cases q2 : p ds with
        | none => simp only [q2] at h; cases h
        | some ds' =>
          simp only [q2] at h
          cases h
          exact ⟨a, xs, ds, ds', e1, hH, hx, q2, fun xs' r => goPut E q (.inr ⟨rfl, rfl⟩) e1 r⟩
      | _ => cases h
theorem mutS_noexc {j : Nat} {p : List PyData → Option (List PyData)} {ρ ρ' : En} {c : Str} : mutS j p ρ ≠ .exc c ρ' := by
  intro h
  unfold mutS at h
  cases q : ρ[j]? with
  | none => simp only [q] at h; cases h
  | some s =>
    simp only [q] at h
    cases s with
    | own d =>
      cases d with
      | list ds => cases q2 : p ds <;> simp only [q2] at h <;> cases h
      | _ => cases h
    | inn d =>
      cases d with
      | list ds => cases q2 : p ds <;> simp only [q2] at h <;> cases h
      | _ => cases h
    | _ => cases h
def setP (k d : PyData) (ds : List PyData) : Option (List PyData) := match k with
  | .int k => (ixN ds.length k).map fun m => ds.set m d
  | _ => none
/-- e is asked first, then i; e is made fast ahead of i -/
def sSet (j : Nat) (fi f : En → Res Op) : En → Out := unS (bnd f fun o => bnd (fz o) fun d => bnd (sVL j) fun _ => bnd fi fun oi => bnd (rdd oi) fun k => mutS j (setP k d))
theorem fz_noexc {o : Op} {ρ ρ' : En} {c : Str} : fz o ρ ≠ .exc c ρ' := by
  intro q
  cases o with
  | v d => cases q
  | fr d => cases d <;> cases q
  | pl j =>
    unfold fz at q
    cases q2 : ρ[j]? with
    | none => simp only [q2] at q; cases q
    | some s => simp only [q2] at q; cases s <;> first | cases q | (rename_i d; cases d <;> cases q)
theorem ds_set {o : Expr} {j : Nat} {spos : Pos} (ho : PE X o (tVar j)) (hi : DE X W i fi) (he : DE X W e f)
    (ha : ∀ v, assign (.Subscript o i spos) X.env v = (do
      let ov ← holding [v] (eval o X.env)
      let iv ← holding [v, ov] (eval i X.env)
      standAt spos
      holding [v, ov, iv] (setItem ov iv v)
      release [v, ov, iv] []) := by intro _; rfl) (hs : swapsWithSole [.Subscript o i spos] e pos.line X.env = pure false := by rfl) (hw : swappedStores [.Subscript o i spos] e X.env = pure none := by rfl)
    (h1 : (assignEach [.Subscript o i spos] X.env).map (·.2) = [assign (.Subscript o i spos) X.env] := by rfl) : DS X W (.Assign [.Subscript o i spos] e pos) (sSet j fi f) := by
  obtain ⟨te, pe, se⟩ := he.ex
  obtain ⟨ti, pi, si⟩ := hi.ex
  refine ⟨_, ps_asg pe (pg_sub ho pi set_list ha) hs hw h1, fun σ F H ρ D E h => se σ F H ρ _ E ?_⟩
  unfold sSet unS andS bnd at h
  cases e : f ρ with
  | bad => simp only [e] at h; exact h
  | exc c ρ1 => simp only [e] at h; exact fun F1 H1 g => h σ F1 H1 g.go
  | ok oe ρ1 =>
    simp only [e] at h
    intro F1 H1 g1 v r
    cases q : fz oe ρ1 with
    | bad => simp only [bnd, q] at h; exact h.elim
    | exc c ρ2 => exact absurd q fz_noexc
    | ok d ρ2 =>
      simp only [bnd, q] at h
      obtain ⟨F2, g2, rp, _⟩ := fz_ok E g1 r q
      have hv : ∃ w, σ[j]? = some (some w) ∧ sVL j ρ2 = .ok () ρ2 := by
        cases qv : sVL j ρ2 with
        | bad => simp only [qv] at h; exact h.elim
        | exc c ρ3 => unfold sVL at qv; split at qv <;> cases qv
        | ok u ρ3 =>
          unfold sVL at qv
          cases q4 : ρ2[j]? with
          | none => simp only [q4] at qv; cases qv
          | some s =>
            simp only [q4] at qv
            obtain ⟨o, e1, e2⟩ := g2.env.sl j s q4
            cases s with
            | own d =>
              cases d with
              | list ds => cases qv; obtain ⟨a, rfl, _⟩ := e2; exact ⟨_, e1, rfl⟩
              | _ => cases qv
            | inn d =>
              cases d with
              | list ds => cases qv; obtain ⟨a, rfl, _⟩ := e2; exact ⟨_, e1, rfl⟩
              | _ => cases qv
            | _ => cases qv
      obtain ⟨w, hσ, qv⟩ := hv
      simp only [qv] at h
      refine ⟨w, hσ, si σ F2 H1 ρ2 _ g2.env ?_⟩
      cases q3 : fi ρ2 with
      | bad => simp only [q3] at h; exact h
      | exc c ρ3 => simp only [q3] at h; exact fun F3 H3 g3 => h σ F3 H3 (g2.trans g3).go
      | ok oi ρ3 =>
        simp only [q3] at h
        intro F3 H3 g3 vi ri
        unfold rdd at h
        cases q5 : rd ρ3 oi with
        | none => simp only [q5] at h; exact h.elim
        | some k =>
          simp only [q5] at h
          have r1 := ri.rd1 g3.env q5
          cases qm : mutS j (setP k d) ρ3 with
          | bad => simp only [qm] at h; exact h.elim
          | exc c ρ4 => exact absurd qm mutS_noexc
          | ok u ρ4 =>
            simp only [qm] at h
            obtain ⟨a, xs, ds, ds', e1, hH, hx, hp, hg⟩ := mutS_ok g3.env qm
            rw [hσ] at e1
            cases e1
            cases k with
            | int k =>
              rw [rd1_int r1]
              cases q6 : ixN ds.length k with
              | none => simp only [setP, q6] at hp; cases hp
              | some m =>
                simp only [setP, q6] at hp
                cases hp
                refine ⟨a, xs, k, m, rfl, rfl, hH, by rw [hx.length]; exact q6, ?_⟩
                have g4 := hg (xs.set m v) (RpL.set (rp.mono g3.go.evo.le) m hx)
                exact h σ F3 _ (g2.trans (g3.trans g4)).go
            | _ => cases hp
/-! ### x += e -/
def sAug (j : Nat) (p : Int → Int → Int) (f : En → Res Op) : En → Out := unS (bnd (sV j) fun o => bnd f fun o2 => bnd (rdd o) fun a => bnd (rdd o2) fun b => match a, b with
  | .int a, .int b => put j (.v (.int (p a b)))
  | _, _ => fun _ => .bad)
theorem ds_aug {j : Nat} {x : Str} {op : Operator} {p : Int → Int → Int} {pos' : Pos} (hN : X.N.Nodup) (hi : X.N[j]? = some x) (hx : Loc X.env.scope x) (he : DE X W e f) (ho : PIp X op (ipI p)) (hf : X.fn x = true ∨ X.env.scope.names.lookup x = some .local := by first | exact .inl rfl | exact .inr rfl | assumption) :
    DS X W (.AugAssign (.Name x pos') op e pos) (sAug j p f) := by
  obtain ⟨te, pe, se⟩ := he.ex
  refine ⟨_, ps_aug hN hi hx pe ho hf, fun σ F H ρ D E h => ?_⟩
  unfold sAug unS andS bnd at h
  cases q0 : sV j ρ with
  | bad => simp only [q0] at h; exact h.elim
  | exc c r => unfold sV at q0; split at q0 <;> cases q0
  | ok o ρ0 =>
    have e0 : ρ0 = ρ := by unfold sV at q0; split at q0 <;> first | (cases q0; rfl) | cases q0
    subst e0
    simp only [q0, bnd] at h
    have hv : ∃ v, σ[j]? = some (some v) ∧ OdR X.K H F H σ v o := by
      unfold sV at q0
      cases q : ρ0[j]? with
      | none => simp only [q] at q0; cases q0
      | some s =>
        simp only [q] at q0
        obtain ⟨w, e1, e2⟩ := E.sl j s q
        cases s with
        | no => cases q0
        | val d => cases q0; obtain ⟨v, rfl, r⟩ := e2; exact ⟨v, e1, r⟩
        | fix d => cases q0; obtain ⟨v, rfl, r⟩ := e2; exact ⟨v, e1, r⟩
        | own d => cases q0; obtain ⟨v, rfl, r⟩ := e2; exact ⟨_, e1, e1⟩
        | inn d => cases q0; obtain ⟨v, rfl, r⟩ := e2; exact ⟨_, e1, e1⟩
        | bor d => cases q0; obtain ⟨v, rfl, r⟩ := e2; exact ⟨_, e1, e1⟩
    obtain ⟨v, hσ, ro⟩ := hv
    refine ⟨v, hσ, se σ F H ρ0 _ E ?_⟩
    cases q3 : f ρ0 with
    | bad => simp only [q3] at h; exact h
    | exc c ρ3 => simp only [q3] at h; exact fun F3 H3 g3 => h σ F3 H3 g3.go
    | ok o2 ρ1 =>
      simp only [q3] at h
      intro F1 H1 g1 v2 r2
      unfold rdd at h
      cases q5 : rd ρ1 o with
      | none => simp only [q5] at h; exact h.elim
      | some a =>
        simp only [q5] at h
        cases q6 : rd ρ1 o2 with
        | none => simp only [q6] at h; exact h.elim
        | some b =>
          simp only [q6] at h
          have r1' := (ro.go E (.refl E) g1).rd1 g1.env q5
          have r2' := r2.rd1 g1.env q6
          cases a with
          | int a =>
            cases b with
            | int b =>
              rw [rd1_int r1', rd1_int r2']
              refine ⟨a, b, rfl, rfl, ?_⟩
              cases q : put j (.v (.int (p a b))) ρ1 with
              | bad => simp only [q] at h; exact h.elim
              | exc c ρ2 => exact absurd q put_noexc
              | ok u ρ2 =>
                simp only [q] at h
                obtain ⟨F2, k⟩ := put_ok (v := .int (p a b)) E g1 (show OdR X.K H F1 H1 σ (.int (p a b)) (.v (.int (p a b))) from Rp.int _) q
                exact h _ F2 H1 k
            | _ => exact h.elim
          | _ => exact h.elim
end
end Py
end L2

namespace L2
namespace Py
open PySem PySem.Spec PyProof.Rows

/-! ### readings by the semantics itself -/
def tE (K : PySem.W.Frag) (W : XW) (f : En → Res Op) : TE := fun σ H Q => ∃ F ρ, EnvR K F H σ ρ ∧ Post K W σ ρ F H (f ρ) (fun o _ F' H' => ∀ v, OdR K H F' H' σ v o → Q v H')
def tB' (K : PySem.W.Frag) (W : XW) (f : En → Res Bool) : TT := fun σ H Q => ∃ F ρ, EnvR K F H σ ρ ∧ Post K W σ ρ F H (f ρ) (fun b _ _ H' => Q b H')
def tG' (K : PySem.W.Frag) (is : List Nat) (f : PyData → En → Res Unit) : TG := fun v σ H Q => ∃ F ρ d, EnvR K F H σ ρ ∧ Rp K F v d ∧ ∃ ρ', f d ρ = .ok () ρ' ∧ ∀ σ', Go K σ ρ F H σ' ρ' F H → But is σ σ' ρ ρ' → Q σ' H
theorem DE.can {X : Cx} {W : XW} {e : Expr} {f : En → Res Op} (h : DE X W e f) : PE X e (tE X.K W f) := by
  obtain ⟨t, p, q⟩ := h.ex
  exact ⟨fun pins s σ H Q I ⟨F, ρ, E, hp⟩ => p.run pins s σ H Q I (q σ F H ρ Q E hp)⟩
theorem DT.can {X : Cx} {W : XW} {e : Expr} {f : En → Res Bool} (h : DT X W e f) : PT X e (tB' X.K W f) := by
  obtain ⟨t, p, q⟩ := h.ex
  exact ⟨fun pins s σ H Q I ⟨F, ρ, E, hp⟩ => p.run pins s σ H Q I (q σ F H ρ Q E hp)⟩
theorem DG.can {X : Cx} {is : List Nat} {e : Expr} {f : PyData → En → Res Unit} (h : DG X is e f) : PG X e (tG' X.K is f) := by
  obtain ⟨t, p, q⟩ := h.ex
  exact ⟨fun pins s σ H v u Q I r ⟨F, ρ, d, E, rp, hp⟩ => p.run pins s σ H v u Q I r (q σ F H ρ v d Q E rp hp)⟩

/-! ### what is walked -/
structure ItOk (K : PySem.W.Frag) (A : Addr → Prop) (F H : Hp) (J : It) (ds : List PyData) : Prop where
  ok : ∀ F2 H2, Same F F2 → Same F2 H2 → (∀ a o, A a → H a = some o → H2 a = some o) → J.stop ds.length H2 ∧ ∀ i d, ds[i]? = some d → J.go i H2 ∧ ∀ x H3, J.yld i H2 x H3 → ∃ F3, Evo (fun a => H2 a = none) F2 H2 F3 H3 ∧ Same F3 H3 ∧ Rp K F3 x d
structure DI (X : Cx) (W : XW) (tg iter : Expr) (f : En → Res (List PyData × List Op)) : Prop where
  ex : ∃ wi, PI X tg iter wi ∧ ∀ (σ : St) (F H : Hp) (ρ : En) (R : It → Hp → Prop), EnvR X.K F H σ ρ →
    Post X.K W σ ρ F H (f ρ) (fun p ρ' F' H' => ∀ J A vs, OdsA X.K H F' H' σ vs p.2 → (∀ o ∈ p.2, ∀ i, o = .pl i → ∃ s, ρ'[i]? = some s ∧ s.plc = true) → (∀ a, A a → ∃ (k : Nat) (o : Op), vs[k]? = some (V.ref a) ∧ p.2[k]? = some o ∧ ∀ d, o ≠ .v d) → ItOk X.K A F' H' J p.1 → R J H') → wi σ H R
/-! ### slots lent while a thing is walked, and put back -/
def Sl.lend : Sl → Sl
  | .own d => .bor d
  | .inn d => .bor d
  | s => s
def zq6x : List Op → List Nat
  | [] => []
  | .pl i :: os => i :: zq6x os
  | _ :: os => zq6x os
/-- inside: the slots ps lent, the slots vs empty -/
def inE (ps vs : List Nat) : Nat → En → En
  | _, [] => []
  | k, s :: ρ => (if vs.contains k = true then .no else if ps.contains k = true then s.lend else s) :: inE ps vs (k + 1) ρ
/-- outside again: the slots lent and emptied as they were -/
def outE (ps vs : List Nat) : Nat → En → En → En
  | k, s0 :: ρ0, s :: ρ => (if vs.contains k = true then s0 else if (ps.contains k && s0.mut) = true then s0 else s) :: outE ps vs (k + 1) ρ0 ρ
  | _, _, _ => []
theorem inE_get {ps vs : List Nat} : ∀ (k : Nat) (ρ : En) (i : Nat), (inE ps vs k ρ)[i]? = (ρ[i]?).map fun s => if vs.contains (k + i) = true then .no else if ps.contains (k + i) = true then s.lend else s
  | _, [], i => by simp [inE]
  | k, s :: ρ, 0 => by simp [inE]
  | k, s :: ρ, i + 1 => by
    simp only [inE, List.getElem?_cons_succ]
    rw [inE_get (k + 1) ρ i]
    have e : k + 1 + i = k + (i + 1) := by omega
    rw [e]
theorem inE_length {ps vs : List Nat} : ∀ (k : Nat) (ρ : En), (inE ps vs k ρ).length = ρ.length
  | _, [] => rfl
  | k, s :: ρ => by simp only [inE, List.length_cons, inE_length (k + 1) ρ]
theorem outE_length {ps vs : List Nat} : ∀ (k : Nat) (ρ0 ρ : En), ρ0.length = ρ.length → (outE ps vs k ρ0 ρ).length = ρ.length
  | _, [], [], _ => rfl
  | k, s0 :: ρ0, s :: ρ, h => by
    simp only [outE, List.length_cons]
    rw [outE_length (k + 1) ρ0 ρ (by simpa using h)]
theorem outE_get {ps vs : List Nat} : ∀ (k : Nat) (ρ0 ρ : En) (i : Nat) (s0 s : Sl), ρ0[i]? = some s0 → ρ[i]? = some s → (outE ps vs k ρ0 ρ)[i]? = some (if vs.contains (k + i) = true then s0 else if (ps.contains (k + i) && s0.mut) = true then s0 else s)
  | _, [], _, i, _, _, h, _ => by simp at h
  | _, _ :: _, [], i, _, _, _, h => by simp at h
  | k, s0 :: ρ0, s :: ρ, 0, _, _, h0, h => by
    simp at h0 h
    subst h0 h
    simp [outE]
  | k, t0 :: ρ0, t :: ρ, i + 1, s0, s, h0, h => by
    simp only [outE, List.getElem?_cons_succ] at h0 h ⊢
    rw [outE_get (k + 1) ρ0 ρ i s0 s h0 h]
    have e : k + 1 + i = k + (i + 1) := by omega
    rw [e]
theorem lend_mut {s : Sl} : s.lend.mut = false := by cases s <;> rfl
theorem lend_plc {s : Sl} : s.lend.plc = s.plc := by cases s <;> rfl
theorem wipe_out' {σ : St} {vs : List Nat} {i : Nat} (h : vs.contains i = false) : (wipe σ vs)[i]? = σ[i]? := wipe_out fun m => by
  have : vs.contains i = true := List.contains_iff_mem.mpr m
  rw [h] at this; cases this
section
variable {K : PySem.W.Frag} {σ : St} {ρ ρf : En} {F H F' H' : Hp} {ps vs : List Nat}
/-- a slot inside, by the slot outside -/
theorem in_slot {i : Nat} {t : Sl} (h : (inE ps vs 0 ρ)[i]? = some t) : ∃ s, ρ[i]? = some s ∧ ((vs.contains i = true ∧ t = .no) ∨ (vs.contains i = false ∧ ps.contains i = true ∧ t = s.lend) ∨ (vs.contains i = false ∧ ps.contains i = false ∧ t = s)) := by
  rw [inE_get, Nat.zero_add] at h
  cases q : ρ[i]? with
  | none => rw [q] at h; cases h
  | some s =>
    rw [q] at h
    refine ⟨s, rfl, ?_⟩
    simp only [Option.map_some, Option.some.injEq] at h
    cases h1 : vs.contains i with
    | true => rw [h1, if_pos rfl] at h; exact .inl ⟨rfl, h.symm⟩
    | false =>
      rw [h1, if_neg Bool.false_ne_true] at h
      cases h2 : ps.contains i with
      | true => rw [h2, if_pos rfl] at h; exact .inr (.inl ⟨rfl, rfl, h.symm⟩)
      | false => rw [h2, if_neg Bool.false_ne_true] at h; exact .inr (.inr ⟨rfl, rfl, h.symm⟩)
theorem in_env (E : EnvR K F H σ ρ) : EnvR K F H (wipe σ vs) (inE ps vs 0 ρ) where
  len := by rw [wipe_length, inE_length]; exact E.len
  le := E.le
  sl := fun i t h => by
    obtain ⟨s, hs, c⟩ := in_slot h
    obtain ⟨o, h1, h2⟩ := E.sl i s hs
    rcases c with ⟨v, rfl⟩ | ⟨v, p, rfl⟩ | ⟨v, p, rfl⟩
    · have hl : i < (wipe σ vs).length := by rw [wipe_length]; exact (List.getElem?_eq_some_iff.mp h1).1
      exact ⟨_, List.getElem?_eq_getElem hl, trivial⟩
    · refine ⟨o, by rw [wipe_out' v]; exact h1, ?_⟩
      cases s <;> exact h2
    · exact ⟨o, by rw [wipe_out' v]; exact h1, h2⟩
  inj := fun i j s t a ne h1 h2 m p z1 z2 => by
    obtain ⟨s0, e1, c1⟩ := in_slot h1
    obtain ⟨t0, e2, c2⟩ := in_slot h2
    have w1 : vs.contains i = false := by
      rcases c1 with ⟨v, rfl⟩ | ⟨v, _⟩ | ⟨v, _⟩
      · cases m
      · exact v
      · exact v
    have w2 : vs.contains j = false := by
      rcases c2 with ⟨v, rfl⟩ | ⟨v, _⟩ | ⟨v, _⟩
      · cases p
      · exact v
      · exact v
    rw [wipe_out' w1] at z1
    rw [wipe_out' w2] at z2
    have m0 : s0.mut = true := by
      rcases c1 with ⟨_, rfl⟩ | ⟨_, _, rfl⟩ | ⟨_, _, rfl⟩
      · cases m
      · rw [lend_mut] at m; cases m
      · exact m
    have p0 : t0.plc = true := by
      rcases c2 with ⟨_, rfl⟩ | ⟨_, _, rfl⟩ | ⟨_, _, rfl⟩
      · cases p
      · rw [lend_plc] at p; exact p
      · exact p
    exact E.inj i j s0 t0 a ne e1 e2 m0 p0 z1 z2
theorem in_own {a : Addr} (h : ownA (wipe σ vs) (inE ps vs 0 ρ) a) : ∃ (i : Nat) (s : Sl), ρ[i]? = some s ∧ s.mut = true ∧ σ[i]? = some (some (.ref a)) ∧ vs.contains i = false ∧ ps.contains i = false := by
  have fin : ∀ (i : Nat) (t : Sl), (inE ps vs 0 ρ)[i]? = some t → t.mut = true → (wipe σ vs)[i]? = some (some (.ref a)) → ∃ (i : Nat) (s : Sl), ρ[i]? = some s ∧ s.mut = true ∧ σ[i]? = some (some (.ref a)) ∧ vs.contains i = false ∧ ps.contains i = false := fun i t h m z => by
    obtain ⟨s, hs, c⟩ := in_slot h
    rcases c with ⟨v, rfl⟩ | ⟨v, p, rfl⟩ | ⟨v, p, rfl⟩
    · cases m
    · rw [lend_mut] at m; cases m
    · rw [wipe_out' v] at z; exact ⟨i, t, hs, m, z, v, p⟩
  rcases h with ⟨i, d, h1, h2⟩ | ⟨i, d, h1, h2⟩
  · exact fin i _ h1 rfl h2
  · exact fin i _ h1 rfl h2
/-- a slot outside again -/
def kept (ps vs : List Nat) (i : Nat) (s0 : Sl) : Bool := vs.contains i || (ps.contains i && s0.mut)
theorem out_slot {i : Nat} {t : Sl} (hl : ρ.length = ρf.length) (h : (outE ps vs 0 ρ ρf)[i]? = some t) : ∃ s0 s, ρ[i]? = some s0 ∧ ρf[i]? = some s ∧ ((kept ps vs i s0 = true ∧ t = s0) ∨ (kept ps vs i s0 = false ∧ t = s)) := by
  have h1 : i < ρf.length := by rw [← outE_length 0 ρ ρf hl]; exact (List.getElem?_eq_some_iff.mp h).1
  have h0 : i < ρ.length := by rw [hl]; exact h1
  refine ⟨ρ[i], ρf[i], List.getElem?_eq_getElem h0, List.getElem?_eq_getElem h1, ?_⟩
  rw [outE_get 0 ρ ρf i _ _ (List.getElem?_eq_getElem h0) (List.getElem?_eq_getElem h1), Nat.zero_add] at h
  have h := (Option.some.inj h).symm
  unfold kept
  cases v : vs.contains i with
  | true => rw [v, if_pos rfl] at h; exact .inl ⟨rfl, h⟩
  | false =>
    rw [v, if_neg Bool.false_ne_true] at h
    cases p : (ps.contains i && ρ[i].mut) with
    | true => rw [p, if_pos rfl] at h; exact .inl ⟨rfl, h⟩
    | false => rw [p, if_neg Bool.false_ne_true] at h; exact .inr ⟨rfl, h⟩
theorem out_put {i : Nat} {s0 s : Sl} (h0 : ρ[i]? = some s0) (h1 : ρf[i]? = some s) : (outE ps vs 0 ρ ρf)[i]? = some (if kept ps vs i s0 = true then s0 else s) := by
  rw [outE_get 0 ρ ρf i _ _ h0 h1, Nat.zero_add]
  unfold kept
  cases v : vs.contains i with
  | true => simp
  | false => simp
/-- back from inside; σo: the slots behind it -/
theorem go_out {σ' σo : St} (E : EnvR K F H σ ρ) (g : Go K (wipe σ vs) (inE ps vs 0 ρ) F H σ' ρf F' H') (hlo : σo.length = σ'.length) (ho : ∀ i, vs.contains i = false → σo[i]? = σ'[i]?) (hv : ∀ i, vs.contains i = true → σo[i]? = σ[i]?) :
    Go K σ ρ F H σo (outE ps vs 0 ρ ρf) F' H' := by
  have Ef := g.env
  have hlen : ρ.length = ρf.length := by rw [g.len, inE_length]
  -- the slot inside of one that is lent
  have inn : ∀ (i : Nat) (s : Sl), ρ[i]? = some s → vs.contains i = false → ps.contains i = true → (inE ps vs 0 ρ)[i]? = some s.lend := fun i s h v p => by
    rw [inE_get, Nat.zero_add, h]; simp only [Option.map_some, v, p, Bool.false_eq_true, if_false, if_true]
  have inp : ∀ (i : Nat) (s : Sl), ρ[i]? = some s → vs.contains i = false → ps.contains i = false → (inE ps vs 0 ρ)[i]? = some s := fun i s h v p => by
    rw [inE_get, Nat.zero_add, h]; simp only [Option.map_some, v, p, Bool.false_eq_true, if_false]
  have lent : ∀ (i : Nat) (s : Sl), ρ[i]? = some s → kept ps vs i s = true → σo[i]? = σ[i]? := fun i s h k => by
    cases v : vs.contains i with
    | true => exact hv i v
    | false =>
      unfold kept at k
      rw [v, Bool.false_or, Bool.and_eq_true] at k
      have hb : ∃ d, s.lend = .bor d := by cases s <;> first | exact ⟨_, rfl⟩ | cases k.2
      obtain ⟨d, hb⟩ := hb
      rw [ho i v, (g.kbo i d (by rw [inn i s h v k.1, hb])).1, wipe_out' v]
  have nown : ∀ (i : Nat) (s : Sl) (a : Addr), ρ[i]? = some s → kept ps vs i s = true → s.plc = true → σ[i]? = some (some (.ref a)) → ¬ ownA (wipe σ vs) (inE ps vs 0 ρ) a := fun i s a h k p z w => by
    obtain ⟨j, t, h1, h2, h3, h4, h5⟩ := in_own w
    have ne : j ≠ i := fun e => by
      subst e
      unfold kept at k
      rw [h4, h5] at k
      cases k
    exact E.inj j i t s a ne h1 h h2 p h3 z
  have unk : ∀ (i : Nat) (s : Sl), kept ps vs i s = false → vs.contains i = false := fun i s k => by
    unfold kept at k
    cases v : vs.contains i with
    | true => rw [v] at k; cases k
    | false => rfl
  -- where an owned thing that was inside stood
  have own0 : ∀ a, ownA (wipe σ vs) (inE ps vs 0 ρ) a → ownA σ ρ a := fun a w => by
    obtain ⟨j, t, h1, h2, h3, _⟩ := in_own w
    cases t with
    | own d => exact .inl ⟨j, d, h1, h3⟩
    | inn d => exact .inr ⟨j, d, h1, h3⟩
    | _ => cases h2
  have innI : ∀ (i : Nat) (d : PyData), (inE ps vs 0 ρ)[i]? = some (.inn d) → ρ[i]? = some (.inn d) ∧ vs.contains i = false := fun i d h => by
    obtain ⟨s, hs, c⟩ := in_slot h
    rcases c with ⟨_, e⟩ | ⟨_, _, e⟩ | ⟨v, _, e⟩
    · cases e
    · cases s <;> cases e
    · rw [e]; exact ⟨hs, v⟩
  have borI : ∀ (i : Nat) (d : PyData), (inE ps vs 0 ρ)[i]? = some (.bor d) → ∃ s, ρ[i]? = some s ∧ s.plc = true ∧ vs.contains i = false ∧ (s = .bor d ∨ (s.mut = true ∧ ps.contains i = true)) := fun i d h => by
    obtain ⟨s, hs, c⟩ := in_slot h
    rcases c with ⟨_, e⟩ | ⟨v, p, e⟩ | ⟨v, _, e⟩
    · cases e
    · refine ⟨s, hs, by rw [← lend_plc, ← e]; rfl, v, ?_⟩
      cases s with
      | own d' => exact .inr ⟨rfl, p⟩
      | inn d' => exact .inr ⟨rfl, p⟩
      | bor d' => left; exact e.symm
      | _ => cases e
    · exact ⟨s, hs, by rw [← e]; rfl, v, .inl e.symm⟩
  -- a place of ρf, its address in σ'
  have where' : ∀ (j : Nat) (t : Sl) (a : Addr), ρf[j]? = some t → t.plc = true → σ'[j]? = some (some (.ref a)) → (∃ (k : Nat) (s : Sl), ρ[k]? = some s ∧ s.mut = true ∧ σ[k]? = some (some (.ref a)) ∧ kept ps vs k s = false) ∨ H a = none ∨ (∃ s, ρ[j]? = some s ∧ s.plc = true ∧ σ[j]? = some (some (.ref a))) := fun j t a h p z => by
    cases t with
    | no => cases p
    | val d => cases p
    | fix d => cases p
    | own d =>
      rcases g.own a ⟨j, d, h, z⟩ with w | w
      · obtain ⟨k, s, h1, h2, h3, h4, h5⟩ := in_own (.inl w)
        exact .inl ⟨k, s, h1, h2, h3, by unfold kept; rw [h4, h5]; rfl⟩
      · exact .inr (.inl w)
    | inn d =>
      obtain ⟨d0, e⟩ := g.inn j d h
      obtain ⟨e1, v⟩ := innI j d0 e
      exact .inr (.inr ⟨_, e1, rfl, by rw [← wipe_out' v, ← (g.kin j d0 e).1]; exact z⟩)
    | bor d =>
      have e := g.bor j d h
      obtain ⟨s, e1, e2, v, _⟩ := borI j d e
      exact .inr (.inr ⟨s, e1, e2, by rw [← wipe_out' v, ← (g.kbo j d e).1]; exact z⟩)
  refine ⟨g.evo.weak own0, ⟨?_, Ef.le, fun i t h => ?_, fun i j s t a ne h1 h2 m p z1 z2 => ?_⟩, fun a w => ?_, fun i d h => ?_, fun i d h => ?_, fun i d h => ?_, fun i d h => ?_, fun i d h => ?_, ?_⟩
  · rw [outE_length 0 ρ ρf hlen, hlo]; exact Ef.len
  · obtain ⟨s0, s, h0, hf, c⟩ := out_slot hlen h
    rcases c with ⟨k, rfl⟩ | ⟨k, rfl⟩
    · obtain ⟨o, e1, e2⟩ := E.sl i t h0
      refine ⟨o, (lent i t h0 k).trans e1, ?_⟩
      cases t with
      | no => trivial
      | val d => obtain ⟨v, e3, r⟩ := e2; exact ⟨v, e3, r.mono g.evo.le⟩
      | fix d => obtain ⟨v, e3, r⟩ := e2; exact ⟨v, e3, r.mono g.evo.le⟩
      | own d => obtain ⟨a, rfl, r⟩ := e2; exact ⟨a, rfl, r.evo g.evo (nown i _ a h0 k rfl e1)⟩
      | inn d => obtain ⟨a, rfl, r⟩ := e2; exact ⟨a, rfl, r.evo g.evo (nown i _ a h0 k rfl e1)⟩
      | bor d => obtain ⟨a, rfl, r⟩ := e2; exact ⟨a, rfl, r.evo g.evo (nown i _ a h0 k rfl e1)⟩
    · obtain ⟨o, e1, e2⟩ := Ef.sl i t hf
      exact ⟨o, (ho i (unk i s0 k)).trans e1, e2⟩
  · obtain ⟨s0, s', h0, hf, c⟩ := out_slot hlen h1
    obtain ⟨t0, t', k0, kf, c'⟩ := out_slot hlen h2
    rcases c with ⟨k, rfl⟩ | ⟨k, rfl⟩
    · have a1 : σ[i]? = some (some (.ref a)) := by rw [← lent i s h0 k]; exact z1
      rcases c' with ⟨k', rfl⟩ | ⟨k', rfl⟩
      · exact E.inj i j s t a ne h0 k0 m p a1 (by rw [← lent j t k0 k']; exact z2)
      · have a2 : σ'[j]? = some (some (.ref a)) := by rw [← ho j (unk j t0 k')]; exact z2
        rcases where' j t a kf p a2 with ⟨l, u, q1, q2, q3, q4⟩ | w | ⟨u, q1, q2, q3⟩
        · have ne' : l ≠ i := fun e => by subst e; rw [h0] at q1; cases q1; rw [k] at q4; cases q4
          exact E.inj l i u s a ne' q1 h0 q2 (Sl.plc_of_mut m) q3 a1
        · obtain ⟨⟨o, ho'⟩, _⟩ := E.plc_there h0 (Sl.plc_of_mut m) a1
          rw [w] at ho'; cases ho'
        · exact E.inj i j s u a ne h0 q1 m q2 a1 q3
    · have a1 : σ'[i]? = some (some (.ref a)) := by rw [← ho i (unk i s0 k)]; exact z1
      rcases c' with ⟨k', rfl⟩ | ⟨k', rfl⟩
      · have a2 : σ[j]? = some (some (.ref a)) := by rw [← lent j t k0 k']; exact z2
        rcases where' i s a hf (Sl.plc_of_mut m) a1 with ⟨l, u, q1, q2, q3, q4⟩ | w | ⟨u, q1, q2, q3⟩
        · have ne' : l ≠ j := fun e => by subst e; rw [k0] at q1; cases q1; rw [k'] at q4; cases q4
          exact E.inj l j u t a ne' q1 k0 q2 p q3 a2
        · obtain ⟨⟨o, ho'⟩, _⟩ := E.plc_there k0 p a2
          rw [w] at ho'; cases ho'
        · -- slot i: a place outside; of two the changing one
          cases s with
          | own d =>
            rcases g.own a ⟨i, d, hf, a1⟩ with w | w
            · obtain ⟨l, u', y1, y2, y3, y4, y5⟩ := in_own (.inl w)
              have ne' : l ≠ j := fun e => by
                subst e
                rw [k0] at y1; cases y1
                unfold kept at k'
                rw [y4, y5] at k'; cases k'
              exact E.inj l j u' t a ne' y1 k0 y2 p y3 a2
            · obtain ⟨⟨o, ho'⟩, _⟩ := E.plc_there k0 p a2
              rw [w] at ho'; cases ho'
          | inn d =>
            obtain ⟨d0, e⟩ := g.inn i d hf
            obtain ⟨e1, v⟩ := innI i d0 e
            exact E.inj i j _ t a ne e1 k0 rfl p q3 a2
          | _ => cases m
      · exact Ef.inj i j s t a ne hf kf m p a1 (by rw [← ho j (unk j t0 k')]; exact z2)
  · obtain ⟨i, d, h, z⟩ := w
    obtain ⟨s0, s, h0, hf, c⟩ := out_slot hlen h
    rcases c with ⟨k, e⟩ | ⟨k, e⟩
    · subst e; exact .inl ⟨i, d, h0, by rw [← lent i _ h0 k]; exact z⟩
    · subst e
      rw [ho i (unk i s0 k)] at z
      rcases g.own a ⟨i, d, hf, z⟩ with w | w
      · obtain ⟨l, d1, h1, h2⟩ := w
        obtain ⟨s1, hs1, c1⟩ := in_slot h1
        rcases c1 with ⟨_, e⟩ | ⟨_, _, e⟩ | ⟨v, _, e⟩
        · cases e
        · cases s1 <;> cases e
        · subst e; exact .inl ⟨l, d1, hs1, by rw [← wipe_out' v]; exact h2⟩
      · exact .inr w
  · obtain ⟨s0, s, h0, hf, c⟩ := out_slot hlen h
    rcases c with ⟨k, e⟩ | ⟨k, e⟩
    · subst e; exact ⟨d, h0⟩
    · subst e
      obtain ⟨d0, e⟩ := g.inn i d hf
      exact ⟨d0, (innI i d0 e).1⟩
  · obtain ⟨s0, s, h0, hf, c⟩ := out_slot hlen h
    rcases c with ⟨k, e⟩ | ⟨k, e⟩
    · subst e; exact h0
    · subst e
      obtain ⟨s1, e1, e2, v, c⟩ := borI i d (g.bor i d hf)
      rcases c with rfl | ⟨m, p⟩
      · exact e1
      · rw [h0] at e1; cases e1
        unfold kept at k
        rw [p, m] at k
        simp at k
  · have hl : i < ρf.length := by rw [← hlen]; exact (List.getElem?_eq_some_iff.mp h).1
    have op := out_put (ps := ps) (vs := vs) h (List.getElem?_eq_getElem hl)
    cases k : kept ps vs i (.inn d) with
    | true => rw [k, if_pos rfl] at op; exact ⟨lent i _ h k, d, .inl op⟩
    | false =>
      rw [k, if_neg Bool.false_ne_true] at op
      have v := unk i _ k
      have p : ps.contains i = false := by
        unfold kept at k
        rw [v] at k
        cases p : ps.contains i with
        | true => rw [p] at k; cases k
        | false => rfl
      obtain ⟨e1, d', e2⟩ := g.kin i d (inp i _ h v p)
      refine ⟨by rw [ho i v, e1, wipe_out' v], d', ?_⟩
      rw [op]
      rcases e2 with e2 | e2
      · rw [List.getElem?_eq_getElem hl] at e2; exact .inl e2
      · rw [List.getElem?_eq_getElem hl] at e2; exact .inr e2
  · have hl : i < ρf.length := by rw [← hlen]; exact (List.getElem?_eq_some_iff.mp h).1
    have op := out_put (ps := ps) (vs := vs) h (List.getElem?_eq_getElem hl)
    cases k : kept ps vs i (.bor d) with
    | true => rw [k, if_pos rfl] at op; exact ⟨lent i _ h k, op⟩
    | false =>
      rw [k, if_neg Bool.false_ne_true] at op
      have v := unk i _ k
      have hin : (inE ps vs 0 ρ)[i]? = some (.bor d) := by
        cases p : ps.contains i with
        | true => exact inn i _ h v p
        | false => exact inp i _ h v p
      obtain ⟨e1, e2⟩ := g.kbo i d hin
      rw [List.getElem?_eq_getElem hl] at e2
      exact ⟨by rw [ho i v, e1, wipe_out' v], by rw [op]; exact e2⟩
  · have hl : i < ρf.length := by rw [← hlen]; exact (List.getElem?_eq_some_iff.mp h).1
    have op := out_put (ps := ps) (vs := vs) h (List.getElem?_eq_getElem hl)
    cases k : kept ps vs i (.fix d) with
    | true => rw [k, if_pos rfl] at op; exact ⟨lent i _ h k, op⟩
    | false =>
      rw [k, if_neg Bool.false_ne_true] at op
      have v := unk i _ k
      have hin : (inE ps vs 0 ρ)[i]? = some (.fix d) := by
        cases p : ps.contains i with
        | true => exact inn i _ h v p
        | false => exact inp i _ h v p
      obtain ⟨e1, e2⟩ := g.kfx i d hin
      rw [List.getElem?_eq_getElem hl] at e2
      exact ⟨by rw [ho i v, e1, wipe_out' v], by rw [op]; exact e2⟩
  · rw [outE_length 0 ρ ρf hlen]; exact hlen.symm
end
end Py
end L2

namespace L2
namespace Py
open PySem PySem.Spec PyProof.Rows

/-! ### for -/
def Out.map (h : En → En) : Out → Out
  | .nx ρ => .nx (h ρ)
  | .rt r ρ => .rt r (h ρ)
  | .rd r ρ => .rd r (h ρ)
  | .bk ρ => .bk (h ρ)
  | .ct ρ => .ct (h ρ)
  | .exc c ρ => .exc c (h ρ)
  | .bad => .bad
def forGo (g : PyData → En → Res Unit) (b : En → Out) : List PyData → En → Out
  | [], ρ => .nx ρ
  | d :: ds, ρ => match g d ρ with
    | .ok _ ρ1 => (match b ρ1 with
      | .nx ρ2 => forGo g b ds ρ2
      | .ct ρ2 => forGo g b ds ρ2
      | .bk ρ2 => .nx ρ2
      | o => o)
    | _ => .bad
/-- with the slots ps lent -/
def lentS (ps : List Nat) (b : En → Out) : En → Out := fun ρ => match ps with
  | [] => b ρ
  | ps => (b (inE ps [] 0 ρ)).map (outE ps [] 0 ρ)
def sFor (it : En → Res (List PyData × List Op)) (g : PyData → En → Res Unit) (b : En → Out) : En → Out := andS it fun p => lentS (zq6x p.2) (forGo g b p.1)
def WFlat (W : XW) : Prop := ∀ c σ σ' ρ ρ' F H, W c σ ρ F H → W c σ' ρ' F H
def noX : XW := fun _ _ _ _ _ => False
theorem flat0 : WFlat noX := fun _ _ _ _ _ _ _ h => h
theorem inE_nil : ∀ (k : Nat) (ρ : En), inE [] [] k ρ = ρ
  | _, [] => rfl
  | k, s :: ρ => by
    unfold inE
    rw [inE_nil (k + 1) ρ]
    rfl
theorem outE_nil : ∀ (k : Nat) (ρ0 ρ : En), ρ0.length = ρ.length → outE [] [] k ρ0 ρ = ρ
  | _, [], [], _ => rfl
  | k, s0 :: ρ0, s :: ρ, h => by
    unfold outE
    rw [outE_nil (k + 1) ρ0 ρ (by simpa using h)]
    rfl
section
variable {X : Cx} {W : XW} {pos : Pos} {tg iter e : Expr} {body : List Stmt} {it : En → Res (List PyData × List Op)} {g : PyData → En → Res Unit} {b : En → Out} {is : List Nat}
/-- the loop itself: from a state in which what is walked is held -/
theorem for_core {K : PySem.W.Frag} {A : Addr → Prop} {σ : St} {ρ : En} {F H : Hp} {J : It} {ds : List PyData} {D : Ends} {tg : TG} {tb : TS} (E : EnvR K F H σ ρ) (ok : ItOk K A F H J ds) (hA : ∀ a, A a → ¬ ownA σ ρ a)
    (hAd : ∀ a, A a → ∃ o, H a = some o)
    (hg : ∀ (σ : St) (F H : Hp) (ρ : En) (v : V) (d : PyData) (Q : St → Hp → Prop), EnvR K F H σ ρ → Rp K F v d → (∃ ρ', g d ρ = .ok () ρ' ∧ ∀ σ', Go K σ ρ F H σ' ρ' F H → But is σ σ' ρ ρ' → Q σ' H) → tg v σ H Q)
    (hb : ∀ (σ : St) (F H : Hp) (ρ : En) (D : Ends), EnvR K F H σ ρ → PostS K W σ ρ F H (b ρ) D → tb D σ H)
    (h : PostS K W σ ρ F H (forGo g b ds ρ) D) :
    ∃ W : Nat → Nat → St → Hp → Prop, (∃ m, W 0 m σ H) ∧ ∀ i m σ H, W i m σ H →
      (J.stop i H ∧ D.nx σ H) ∨ (J.go i H ∧ ∃ N : St → Hp → Prop, (∀ σ' H', N σ' H' → ∃ m', m' < m ∧ W (i + 1) m' σ' H') ∧ ∀ x H', J.yld i H x H' → tg x σ H' fun σ2 H2 => tb { D with nx := N, ct := N, bk := D.nx } σ2 H2) := by
  refine ⟨fun i m σ' H' => m = ds.length - i ∧ i ≤ ds.length ∧ ∃ ρ' F', Go K σ ρ F H σ' ρ' F' H' ∧ PostS K W σ ρ F H (forGo g b (ds.drop i) ρ') D, ⟨_, rfl, Nat.zero_le _, ρ, F, .refl E, h⟩, ?_⟩
  rintro i m σ' H' ⟨rfl, hi, ρ', F', k, hp⟩
  obtain ⟨stop, go⟩ := ok.ok F' H' k.evo.le k.env.le fun a o hAa ho => k.evo.keep a o ho (hA a hAa)
  by_cases hlt : i < ds.length
  · have hd : ds.drop i = ds[i] :: ds.drop (i + 1) := List.drop_eq_getElem_cons hlt
    obtain ⟨g1, y1⟩ := go i ds[i] (List.getElem?_eq_getElem hlt)
    rw [hd] at hp
    unfold forGo at hp
    refine .inr ⟨g1, fun σ2 H2 => ∃ ρ2 F2, Go K σ ρ F H σ2 ρ2 F2 H2 ∧ PostS K W σ ρ F H (forGo g b (ds.drop (i + 1)) ρ2) D, fun σ2 H2 ⟨ρ2, F2, k2, p2⟩ => ⟨_, by omega, rfl, hlt, ρ2, F2, k2, p2⟩, fun x H3 y => ?_⟩
    obtain ⟨F3, ev, le, rp⟩ := y1 x H3 y
    have k3 := k.trans (Go.news k.env ev le)
    cases q : g ds[i] ρ' with
    | bad => simp only [q] at hp; exact hp.elim
    | exc c r => simp only [q] at hp; exact hp.elim
    | ok u ρ1 =>
      simp only [q] at hp
      refine hg σ' F3 H3 ρ' x ds[i] _ k3.env rp ⟨ρ1, q, fun σ1 kg _ => ?_⟩
      have k4 := k3.trans kg
      refine hb σ1 F3 H3 ρ1 _ k4.env ?_
      cases q2 : b ρ1 with
      | bad => simp only [q2] at hp; exact hp.elim
      | nx ρ2 => simp only [q2] at hp; exact fun σ5 F5 H5 k5 => ⟨ρ2, F5, k4.trans k5, hp⟩
      | ct ρ2 => simp only [q2] at hp; exact fun σ5 F5 H5 k5 => ⟨ρ2, F5, k4.trans k5, hp⟩
      | bk ρ2 => simp only [q2] at hp; exact fun σ5 F5 H5 k5 => hp σ5 F5 H5 (k4.trans k5)
      | rt r ρ2 => simp only [q2] at hp; exact fun v σ5 F5 H5 k5 z => hp v σ5 F5 H5 (k4.trans k5) (z.go k4)
      | rd r ρ2 => simp only [q2] at hp; exact fun v σ5 F5 H5 k5 z => hp v σ5 F5 H5 (k4.trans k5) (z.imp (new_go k4))
      | exc c ρ2 => simp only [q2] at hp; exact fun σ5 F5 H5 k5 => hp σ5 F5 H5 (k4.trans k5)
  · have e : i = ds.length := by omega
    subst e
    refine .inl ⟨stop, ?_⟩
    rw [List.drop_length] at hp
    exact hp σ' F' H' k
/-- what is held is not owned inside -/
theorem held_free {K : PySem.W.Frag} {H0 F H : Hp} {σ : St} {ρ0 ρ : En} {F0 : Hp} {vs : List V} {os : List Op} {ws : List Nat} (E0 : EnvR K F0 H0 σ ρ0) (g : GoE K σ ρ0 F0 H0 ρ F H) (ods : OdsA K H0 F H σ vs os) (pl : ∀ o ∈ os, ∀ i, o = .pl i → ∃ s, ρ[i]? = some s ∧ s.plc = true)
    {a : Addr} (h : ∃ (k : Nat) (o : Op), vs[k]? = some (V.ref a) ∧ os[k]? = some o ∧ ∀ d, o ≠ .v d) : ¬ ownA (wipe σ ws) (inE (zq6x os) ws 0 ρ) a ∧ ∃ o, H a = some o := by
  obtain ⟨k, o, hv, ho, nv⟩ := h
  have at' : ∀ {vs : List V} {os : List Op} {k : Nat} {v : V} {o : Op}, OdsA K H0 F H σ vs os → vs[k]? = some v → os[k]? = some o → OdR K H0 F H σ v o := by
    intro vs
    induction vs with
    | nil => intro os k v o _ h; simp at h
    | cons w ws ih =>
      intro os k v o hO h h2
      cases os with
      | nil => exact hO.elim
      | cons o' os =>
        cases k with
        | zero => simp at h h2; subst h h2; exact hO.1
        | succ k => exact ih hO.2 (by simpa using h) (by simpa using h2)
  have r := at' ods hv ho
  have mem : ∀ {os : List Op} {i : Nat}, Op.pl i ∈ os → i ∈ zq6x os := by
    intro os
    induction os with
    | nil => intro i h; cases h
    | cons o os ih =>
      intro i h
      rcases List.mem_cons.mp h with e | h'
      · subst e; exact List.mem_cons_self
      · cases o with
        | v d => exact ih h'
        | fr d => exact ih h'
        | pl j => exact List.mem_cons_of_mem _ (ih h')
  have homem : o ∈ os := List.mem_of_getElem? ho
  cases o with
  | v d => exact absurd rfl (nv d)
  | fr d =>
    obtain ⟨b, e, n, ob⟩ := r
    cases e
    refine ⟨fun w => ?_, ob.there⟩
    obtain ⟨j, t, h1, h2, h3, _⟩ := in_own w
    have : ownA σ ρ a := by
      cases t with
      | own d => exact .inl ⟨j, d, h1, h3⟩
      | inn d => exact .inr ⟨j, d, h1, h3⟩
      | _ => cases h2
    obtain ⟨x, hx⟩ := own_there E0 (g.ownA this)
    rw [n] at hx; cases hx
  | pl i =>
    have r : σ[i]? = some (some (.ref a)) := r
    obtain ⟨s, hs, hp⟩ := pl _ homem i rfl
    refine ⟨fun w => ?_, (g.env.plc_there hs hp r).1⟩
    obtain ⟨j, t, h1, h2, h3, h4, h5⟩ := in_own w
    have ne : j ≠ i := fun e => by
      subst e
      have := List.contains_iff_mem.mpr (mem homem)
      rw [h5] at this; cases this
    exact g.env.inj j i t s a ne h1 hs h2 hp h3 r
theorem ds_for (hW : WFlat W) (hp : PassesOwn (model X.prog X.w) X.A X.env X.xe) (hc : X.calm = true) (hi : DI X W tg iter it) (hg : DG X is tg g) (hb : DSs X W body b) (hs : ∀ x, foldedSetIterable iter X.env x = pure x := by intro _; rfl) : DS X W (.For tg iter body [] pos) (sFor it g b) := by
  obtain ⟨wi, pi, qi⟩ := hi.ex
  obtain ⟨tg', pg, qg⟩ := hg.ex
  obtain ⟨tb, pb, qb⟩ := hb.ex
  refine ⟨_, ps_for hp hc pi pg pb hs, fun σ F H ρ D E h => qi σ F H ρ _ E (h.expr fun p ρ1 F1 H1 _ g1 h1 J A vs ods pl hA ok => ?_)⟩
  obtain ⟨ds, os⟩ := p
  have hfree : ∀ a, A a → ¬ ownA σ (inE (zq6x os) [] 0 ρ1) a := fun a ha => (held_free (ws := []) E g1 ods pl (hA a ha)).1
  have hdom : ∀ a, A a → ∃ o, H1 a = some o := fun a ha => (held_free (ws := []) E g1 ods pl (hA a ha)).2
  have Ein : EnvR X.K F1 H1 σ (inE (zq6x os) [] 0 ρ1) := in_env (vs := []) g1.env
  refine for_core Ein ok hfree hdom qg qb ?_
  -- from the whole's end to the loop's end
  have out : ∀ {σ' : St} {ρ' : En} {F' H' : Hp}, Go X.K σ (inE (zq6x os) [] 0 ρ1) F1 H1 σ' ρ' F' H' → Go X.K σ ρ F H σ' (outE (zq6x os) [] 0 ρ1 ρ') F' H' := fun k =>
    g1.go.trans (go_out (vs := []) g1.env k rfl (fun _ _ => rfl) (fun _ z => by cases z))
  have h1 : PostS X.K W σ ρ F H ((forGo g b ds (inE (zq6x os) [] 0 ρ1)).map (outE (zq6x os) [] 0 ρ1)) D ∨ (zq6x os = [] ∧ PostS X.K W σ ρ F H (forGo g b ds ρ1) D) := by
    unfold lentS at h1
    split at h1
    · rename_i e; exact .inr ⟨e, h1⟩
    · exact .inl h1
  rcases h1 with h1 | ⟨e, h1⟩
  · cases q : forGo g b ds (inE (zq6x os) [] 0 ρ1) with
    | bad => rw [q] at h1; exact h1
    | nx ρ' => rw [q] at h1; exact fun σ' F' H' k => h1 σ' F' H' (out k)
    | bk ρ' => rw [q] at h1; exact fun σ' F' H' k => h1 σ' F' H' (out k)
    | ct ρ' => rw [q] at h1; exact fun σ' F' H' k => h1 σ' F' H' (out k)
    | exc c ρ' => rw [q] at h1; exact fun σ' F' H' k => hW _ _ _ _ _ _ _ (h1 σ' F' H' (out k))
    | rd cs ρ' =>
      rw [q] at h1
      refine fun v σ' F' H' k z => h1 v σ' F' H' (out k) (z.imp fun a w => ?_)
      rcases w with w | w
      · exact .inl (none_of_dom g1.go.evo.dom w)
      · obtain ⟨j, d1, h3, h4⟩ := w
        obtain ⟨s1, hs1, c1⟩ := in_slot h3
        rcases c1 with ⟨_, e⟩ | ⟨_, _, e⟩ | ⟨_, _, e⟩
        · cases e
        · cases s1 <;> cases e
        · subst e
          obtain ⟨d0, q0⟩ := g1.ow j d1 hs1
          exact .inr ⟨j, d0, q0, h4⟩
    | rt r ρ' =>
      rw [q] at h1
      refine fun v σ' F' H' k z => h1 v σ' F' H' (out k) ?_
      cases r with
      | v d => exact z
      | pl i => exact z
      | fr d =>
        obtain ⟨a, e, ob, w⟩ := z
        refine ⟨a, e, ob, ?_⟩
        rcases w with w | w
        · exact .inl (none_of_dom g1.go.evo.dom w)
        · obtain ⟨j, d1, h3, h4⟩ := w
          obtain ⟨s1, hs1, c1⟩ := in_slot h3
          rcases c1 with ⟨_, e⟩ | ⟨_, _, e⟩ | ⟨_, _, e⟩
          · cases e
          · cases s1 <;> cases e
          · subst e
            obtain ⟨d0, q0⟩ := g1.ow j d1 hs1
            exact .inr ⟨j, d0, q0, h4⟩
  · rw [e, inE_nil]
    exact h1.go g1.go
/-! ### list comprehensions -/
def lcGo (g : PyData → En → Res Unit) (t : En → Res Bool) (f : En → Res Op) (vs : List Nat) : List PyData → En → Res (List PyData)
  | [], ρ => .ok [] ρ
  | d :: ds, ρ => match g d ρ with
    | .ok _ ρ1 => (match t ρ1 with
      | .ok true ρ2 => (match f ρ2 with
        | .ok o ρ3 => (match fz o ρ3 with
          | .ok x ρ4 => (match lcGo g t f vs ds (inE [] vs 0 ρ4) with
            | .ok xs ρ5 => .ok (x :: xs) ρ5
            | _ => .bad)
          | _ => .bad)
        | _ => .bad)
      | .ok false ρ2 => lcGo g t f vs ds (inE [] vs 0 ρ2)
      | _ => .bad)
    | _ => .bad
def sLc (it : En → Res (List PyData × List Op)) (g : PyData → En → Res Unit) (t : En → Res Bool) (f : En → Res Op) (vs : List Nat) : En → Res Op := bnd it fun p ρ =>
  if p.1.length ≤ sizeLine then (match lcGo g t f vs p.1 (inE (zq6x p.2) vs 0 ρ) with
    | .ok xs ρf => .ok (.fr (.list xs)) (outE (zq6x p.2) vs 0 ρ ρf)
    | _ => .bad) else .bad
def sYes : En → Res Bool := fun ρ => .ok true ρ
theorem wipe_but {is vs : List Nat} {σ σ' : St} {ρ ρ' : En} (hb : But is σ σ' ρ ρ') (h : ∀ i ∈ is, i ∈ vs) : wipe σ' vs = wipe σ vs := by
  refine List.ext_getElem? fun i => ?_
  by_cases hi : i ∈ vs
  · have hl : (wipe σ' vs).length = (wipe σ vs).length := by rw [wipe_length, wipe_length]; exact hb.1
    have none_at : ∀ {σ : St}, i < σ.length → (wipe σ vs)[i]? = some none := fun {σ} hlt => by
      cases q : (wipe σ vs)[i]? with
      | none => rw [List.getElem?_eq_none_iff, wipe_length] at q; omega
      | some o =>
        cases o with
        | none => rfl
        | some x => exact absurd hi (wipe_some q).2
    by_cases hlt : i < σ.length
    · rw [none_at hlt, none_at (by rw [hb.1]; exact hlt)]
    · rw [List.getElem?_eq_none (by rw [wipe_length, hb.1]; omega), List.getElem?_eq_none (by rw [wipe_length]; omega)]
  · rw [wipe_out hi, wipe_out hi, (hb.2.2 i fun z => hi (h i z)).1]
theorem wipe_idem {σ : St} {vs : List Nat} : wipe (wipe σ vs) vs = wipe σ vs := by
  refine List.ext_getElem? fun i => ?_
  by_cases hi : i ∈ vs
  · have none_at : ∀ {σ : St}, i < σ.length → (wipe σ vs)[i]? = some none := fun {σ} hlt => by
      cases q : (wipe σ vs)[i]? with
      | none => rw [List.getElem?_eq_none_iff, wipe_length] at q; omega
      | some o =>
        cases o with
        | none => rfl
        | some x => exact absurd hi (wipe_some q).2
    by_cases hlt : i < σ.length
    · rw [none_at hlt, none_at (by rw [wipe_length]; exact hlt)]
    · rw [List.getElem?_eq_none (by rw [wipe_length, wipe_length]; omega), List.getElem?_eq_none (by rw [wipe_length]; omega)]
  · rw [wipe_out hi]
/-- a turn's end: the block's own slots are empty again -/
theorem go_turn {K : PySem.W.Frag} {vs is : List Nat} {σw σ2 : St} {ρ ρ2 ρ4 : En} {F H F2 F4 H4 : Hp} {H2 : Hp} (hw : ∀ i, vs.contains i = true → ∀ s, ρ[i]? = some s → s = .no) (hσw : wipe σw vs = σw) (k1 : Go K σw ρ F H σ2 ρ2 F2 H2) (bt : But is σw σ2 ρ ρ2) (hsub : ∀ i ∈ is, i ∈ vs) (k2 : GoE K σ2 ρ2 F2 H2 ρ4 F4 H4) :
    GoE K σw ρ F H (inE [] vs 0 ρ4) F4 H4 := by
  have k := k1.trans k2.go
  have hws : wipe σ2 vs = σw := (wipe_but bt hsub).trans hσw
  have same : ∀ i, vs.contains i = false → σ2[i]? = σw[i]? ∧ ρ2[i]? = ρ[i]? := fun i v => bt.2.2 i fun z => by
    have := List.contains_iff_mem.mpr (hsub i z)
    rw [v] at this; cases this
  have env : EnvR K F4 H4 σw (inE [] vs 0 ρ4) := by rw [← hws]; exact in_env k2.env
  have sl : ∀ (i : Nat) (t : Sl), (inE [] vs 0 ρ4)[i]? = some t → t = .no ∨ (vs.contains i = false ∧ ρ4[i]? = some t) := fun i t h => by
    obtain ⟨s, hs, c⟩ := in_slot h
    rcases c with ⟨_, e⟩ | ⟨_, p, _⟩ | ⟨v, _, e⟩
    · exact .inl e
    · cases p
    · rw [e]; exact .inr ⟨v, hs⟩
  have ow : ∀ (i : Nat) (d : PyData), (inE [] vs 0 ρ4)[i]? = some (.own d) → ∃ d0, ρ[i]? = some (.own d0) := fun i d h => by
    rcases sl i _ h with e | ⟨v, h⟩
    · cases e
    · obtain ⟨d0, h0⟩ := k2.ow i d h
      rw [(same i v).2] at h0
      exact ⟨d0, h0⟩
  have put : ∀ (i : Nat) (t : Sl), vs.contains i = false → ρ4[i]? = some t → (inE [] vs 0 ρ4)[i]? = some t := fun i t v h => by
    rw [inE_get, Nat.zero_add, h]; simp only [Option.map_some, v, Bool.false_eq_true, if_false]; rfl
  have nv : ∀ (i : Nat) (t : Sl), ρ[i]? = some t → t ≠ .no → vs.contains i = false := fun i t h n => by
    cases v : vs.contains i with
    | true => exact absurd (hw i v t h) n
    | false => rfl
  refine ⟨⟨k.evo, env, fun a z => ?_, fun i d h => ?_, fun i d h => ?_, fun i d h => ?_, fun i d h => ?_, fun i d h => ?_, ?_⟩, ow⟩
  · obtain ⟨i, d, h, z⟩ := z
    obtain ⟨d0, h0⟩ := ow i d h
    exact .inl ⟨i, d0, h0, z⟩
  · rcases sl i _ h with e | ⟨v, h⟩
    · cases e
    · exact k.inn i d h
  · rcases sl i _ h with e | ⟨v, h⟩
    · cases e
    · exact k.bor i d h
  · have v := nv i _ h (by intro z; cases z)
    obtain ⟨e1, d', e2⟩ := k.kin i d h
    refine ⟨rfl, d', ?_⟩
    rcases e2 with e2 | e2
    · exact .inl (put i _ v e2)
    · exact .inr (put i _ v e2)
  · exact ⟨rfl, put i _ (nv i _ h (by intro z; cases z)) (k.kbo i d h).2⟩
  · exact ⟨rfl, put i _ (nv i _ h (by intro z; cases z)) (k.kfx i d h).2⟩
  · rw [inE_length]; exact k.len
/-- the list that is made is no part of the env -/
theorem go_made {K : PySem.W.Frag} {σ : St} {ρ0 ρ : En} {F0 H0 F H : Hp} {D : Addr} (E0 : EnvR K F0 H0 σ ρ0) (g : GoE K σ ρ0 F0 H0 ρ F H) (hD : H0 D = none) (hF : F D = none) (xs : List V) : GoE K σ ρ0 F0 H0 ρ F (upd H D (.lst xs)) := by
  have ev : Evo (fun b => b = D) F H F (upd H D (.lst xs)) := ⟨Same.refl _, fun b o q n => by rw [upd_ne n]; exact q, fun _ _ _ _ => rfl, fun b o q => by
    by_cases e : b = D
    · subst e; exact ⟨_, upd_same⟩
    · rw [upd_ne e]; exact ⟨o, q⟩⟩
  have nA : ∀ (i : Nat) (s : Sl) (b : Addr), ρ[i]? = some s → s.plc = true → σ[i]? = some (some (.ref b)) → b ≠ D := fun i s b h1 h2 h3 z => by
    subst z
    have hn : ∀ {s0 : Sl}, ρ0[i]? = some s0 → s0.plc = true → False := fun {s0} q p => by
      obtain ⟨⟨o, hq⟩, _⟩ := E0.plc_there q p h3
      rw [hD] at hq; cases hq
    cases s with
    | no => cases h2
    | val d => cases h2
    | fix d => cases h2
    | own d => obtain ⟨d0, q⟩ := g.ow i d h1; exact hn q rfl
    | inn d => obtain ⟨d0, q⟩ := g.go.inn i d h1; exact hn q rfl
    | bor d => exact hn (g.go.bor i d h1) rfl
  have le : Same F (upd H D (.lst xs)) := fun b o q => by rw [upd_ne (ne_of_none q hF)]; exact g.env.le _ _ q
  exact ⟨⟨g.go.evo.trans ev fun b e => .inr (by rw [e]; exact hD), g.env.evo ev le nA, g.go.own, g.go.inn, g.go.bor, g.go.kin, g.go.kbo, g.go.kfx, g.go.len⟩, g.ow⟩
theorem lc_sound {K : PySem.W.Frag} {vs : List Nat} {t : En → Res Bool} {f : En → Res Op} {A : Addr → Prop} {σ : St} {ρb : En} {F1 H1 : Hp} {J : It} {ds : List PyData} {es : List PyData} {ρf : En} {Q : VK} {D : Addr} (hsub : ∀ i ∈ is, i ∈ vs)
    (E : EnvR K F1 H1 (wipe σ vs) ρb) (hwb : ∀ i, vs.contains i = true → ∀ s, ρb[i]? = some s → s = .no) (ok : ItOk K A F1 H1 J ds) (hA : ∀ a, A a → ¬ ownA (wipe σ vs) ρb a) (hAd : ∀ a, A a → ∃ o, H1 a = some o) (hsz : ds.length ≤ sizeLine) (hD : H1 D = none) (hlc : lcGo g t f vs ds ρb = .ok es ρf)
    (fin : ∀ F' H', GoE K (wipe σ vs) ρb F1 H1 ρf F' H' → Ob K F' H' D (.list es) → Q (.ref D) H') :
    ∃ W' : Nat → Nat → Hp → Prop, (∃ m, W' 0 m (upd H1 D (.lst []))) ∧ ∀ i m H, W' i m H →
      (J.stop i H ∧ Q (.ref D) H) ∨ (J.go i H ∧ ∃ Nx : Hp → Prop, (∀ H', Nx H' → ∃ m', m' < m ∧ W' (i + 1) m' H') ∧ ∀ x H', J.yld i H x H' → tG' K is g x (wipe σ vs) H' fun σ2 H2 => wipe σ2 vs = wipe σ vs ∧ tB' K noX t σ2 H2 fun b H3 =>
        if b = true then tE K noX f σ2 H3 fun y H4 => ∃ acc, H4 D = some (.lst acc) ∧ acc.length < sizeLine ∧ Nx (upd H4 D (.lst (acc ++ [y]))) else Nx H3) := by
  have hF1 : F1 D = none := E.le.free hD
  refine ⟨fun i m H => m = ds.length - i ∧ i ≤ ds.length ∧ ∃ ρ F xs acc rest, GoE K (wipe σ vs) ρb F1 H1 ρ F H ∧ (∀ i, vs.contains i = true → ∀ s, ρ[i]? = some s → s = .no) ∧ H D = some (.lst xs) ∧ F D = none ∧ RpL K F xs acc ∧ xs.length ≤ i ∧ lcGo g t f vs (ds.drop i) ρ = .ok rest ρf ∧ es = acc ++ rest,
    ⟨_, rfl, Nat.zero_le _, ρb, F1, [], [], es, go_made E (.refl E) hD hF1 [], hwb, upd_same, hF1, .nil, Nat.le_refl _, hlc, rfl⟩, ?_⟩
  rintro i m H ⟨rfl, hi, ρ, F, xs, acc, rest, k, hw, hDl, hFD, rx, hxl, hl, he⟩
  obtain ⟨stop, go⟩ := ok.ok F H k.go.evo.le k.env.le fun a o hAa ho => k.go.evo.keep a o ho (hA a hAa)
  by_cases hlt : i < ds.length
  · have hd : ds.drop i = ds[i] :: ds.drop (i + 1) := List.drop_eq_getElem_cons hlt
    obtain ⟨g1, y1⟩ := go i ds[i] (List.getElem?_eq_getElem hlt)
    rw [hd] at hl
    unfold lcGo at hl
    refine .inr ⟨g1, fun H2 => ∃ ρ F xs acc rest, GoE K (wipe σ vs) ρb F1 H1 ρ F H2 ∧ (∀ i, vs.contains i = true → ∀ s, ρ[i]? = some s → s = .no) ∧ H2 D = some (.lst xs) ∧ F D = none ∧ RpL K F xs acc ∧ xs.length ≤ i + 1 ∧ lcGo g t f vs (ds.drop (i + 1)) ρ = .ok rest ρf ∧ es = acc ++ rest, fun H2 z => ⟨_, by omega, rfl, hlt, z⟩, fun x H3 y => ?_⟩
    obtain ⟨F3, ev, le, rp⟩ := y1 x H3 y
    have k3 := k.trans (GoE.news k.env ev le)
    have hD3 : H3 D = some (.lst xs) := ev.keep _ _ hDl (by rw [hDl]; intro z; cases z)
    have hF3 : F3 D = none := (ev.keepF _ _ hDl (by rw [hDl]; intro z; cases z)).trans hFD
    cases q : g ds[i] ρ with
    | bad => simp only [q] at hl; cases hl
    | exc c r => simp only [q] at hl; cases hl
    | ok u ρ1 =>
      simp only [q] at hl
      refine ⟨F3, ρ, ds[i], k3.env, rp, ρ1, q, fun σ2 kg bt => ⟨(wipe_but bt hsub).trans wipe_idem, F3, ρ1, kg.env, ?_⟩⟩
      -- what belongs to the list being made stays
      have keepD : ∀ {ρ' : En} {F' H' : Hp}, GoE K σ2 ρ1 F3 H3 ρ' F' H' → H' D = some (.lst xs) ∧ F' D = none := fun {ρ' F' H'} kk => by
        have nD : ¬ ownA σ2 ρ1 D := fun z => by
          rcases kg.ownA z with w | w
          · rcases k3.ownA w with ⟨j, d, _, _⟩ | ⟨j, d, _, _⟩
            · obtain ⟨o, ho⟩ := own_there E (k3.ownA w); rw [hD] at ho; cases ho
            · obtain ⟨o, ho⟩ := own_there E (k3.ownA w); rw [hD] at ho; cases ho
          · rw [hD3] at w; cases w
        exact ⟨kk.go.evo.keep _ _ hD3 nD, (kk.go.evo.keepF _ _ hD3 nD).trans hF3⟩
      cases qt : t ρ1 with
      | bad => simp only [qt] at hl; cases hl
      | exc c r => simp only [qt] at hl; cases hl
      | ok bb ρ2 =>
        simp only [qt] at hl
        intro F5 H5 k5
        cases bb with
        | false =>
          rw [if_neg Bool.false_ne_true]
          simp only at hl
          obtain ⟨d5, f5⟩ := keepD k5
          refine ⟨_, F5, xs, acc, rest, k3.trans (go_turn hw wipe_idem kg bt hsub k5), fun j v s hs => ?_, d5, f5, rx.mono (ev.le.trans k5.go.evo.le), by omega, hl, he⟩
          obtain ⟨s0, _, c⟩ := in_slot hs
          rcases c with ⟨_, e⟩ | ⟨v', _⟩ | ⟨v', _⟩
          · exact e
          · rw [v] at v'; cases v'
          · rw [v] at v'; cases v'
        | true =>
          rw [if_pos rfl]
          simp only at hl
          refine ⟨F5, ρ2, k5.env, ?_⟩
          cases qf : f ρ2 with
          | bad => simp only [qf] at hl; cases hl
          | exc c r => simp only [qf] at hl; cases hl
          | ok o ρ3 =>
            simp only [qf] at hl
            intro F6 H6 k6 v r
            cases qz : fz o ρ3 with
            | bad => simp only [qz] at hl; cases hl
            | exc c r => simp only [qz] at hl; cases hl
            | ok z ρ4 =>
              simp only [qz] at hl
              obtain ⟨F7, k7, rz, s7, _⟩ := fz_ok k5.env k6 r qz
              have k57 := k5.trans k7
              obtain ⟨d6, f7⟩ := keepD k57
              cases ql : lcGo g t f vs (ds.drop (i + 1)) (inE [] vs 0 ρ4) with
              | bad => simp only [ql] at hl; cases hl
              | exc c r => simp only [ql] at hl; cases hl
              | ok rest' ρ5 =>
                simp only [ql] at hl
                cases hl
                refine ⟨xs, d6, by omega, _, F7, xs ++ [v], acc ++ [z], rest', go_made E (k3.trans (go_turn hw wipe_idem kg bt hsub k57)) hD f7 _, fun j v s hs => ?_, upd_same, f7, (rx.mono (ev.le.trans k57.go.evo.le)).append (.cons rz .nil), by rw [List.length_append]; show xs.length + 1 ≤ i + 1; omega, ql, by rw [he, List.append_assoc]; rfl⟩
                obtain ⟨s0, _, c⟩ := in_slot hs
                rcases c with ⟨_, e⟩ | ⟨v', _⟩ | ⟨v', _⟩
                · exact e
                · rw [v] at v'; cases v'
                · rw [v] at v'; cases v'
  · have e : i = ds.length := by omega
    subst e
    rw [List.drop_length] at hl
    unfold lcGo at hl
    cases hl
    rw [List.append_nil] at he
    subst he
    exact .inl ⟨stop, fin F H k ⟨xs, hDl, hFD, rx⟩⟩
end
end Py
end L2

namespace L2
namespace Py
open PySem PySem.Spec PyProof.Rows
section
variable {X : Cx} {W : XW} {pos : Pos} {tg iter e elt : Expr} {it : En → Res (List PyData × List Op)} {g : PyData → En → Res Unit} {t : En → Res Bool} {f : En → Res Op} {is : List Nat}
structure DTs (X : Cx) (W : XW) (ifs : List Expr) (t : En → Res Bool) : Prop where
  run : PTs X ifs (tB' X.K W t)
theorem dts_nil : DTs X W [] sYes := ⟨⟨fun pins s σ H Q I ⟨F, ρ, E, h⟩ => pts_nil.run pins s σ H Q I (h F H (.refl E))⟩⟩
theorem dts_one {c : Expr} (h : DT X W c t) : DTs X W [c] t := ⟨pts_one h.can⟩
theorem lc_read {scope : Scope} {own : List (Str × Nat)} {ifs : List Expr} {wi : TI} (hsub : ∀ i ∈ is, i ∈ own.map (·.2))
    (qi : ∀ (σ : St) (F H : Hp) (ρ : En) (R : It → Hp → Prop), EnvR X.K F H σ ρ →
      Post X.K W σ ρ F H (it ρ) (fun p ρ' F' H' => ∀ J A vs, OdsA X.K H F' H' σ vs p.2 → (∀ o ∈ p.2, ∀ i, o = .pl i → ∃ s, ρ'[i]? = some s ∧ s.plc = true) → (∀ a, A a → ∃ (k : Nat) (o : Op), vs[k]? = some (V.ref a) ∧ p.2[k]? = some o ∧ ∀ d, o ≠ .v d) → ItOk X.K A F' H' J p.1 → R J H') → wi σ H R)
    (σ : St) (F H : Hp) (ρ : En) (Q : VK) (E : EnvR X.K F H σ ρ) (h : Post X.K W σ ρ F H (sLc it g t f (own.map (·.2)) ρ) (fun o _ F' H' => ∀ v, OdR X.K H F' H' σ v o → Q v H')) : tLc wi (tG' X.K is g) (tB' X.K noX t) (tE X.K noX f) (own.map (·.2)) σ H Q := by
  refine qi σ F H ρ _ E (h.fst fun p ρ1 F1 H1 eq g1 h1 J A vs ods pl hA okk D hD => ?_)
  obtain ⟨ds, os⟩ := p
  split at h1
  · rename_i hsz
    cases q : lcGo g t f (own.map (·.2)) ds (inE (zq6x os) (own.map (·.2)) 0 ρ1) with
    | bad => simp only [q] at h1; exact h1.elim
    | exc c r => simp only [q] at h1; exact h1.elim
    | ok xs ρf =>
      simp only [q] at h1
      have Ein : EnvR X.K F1 H1 (wipe σ (own.map (·.2))) (inE (zq6x os) (own.map (·.2)) 0 ρ1) := in_env g1.env
      refine lc_sound hsub Ein (fun i v s hs => ?_) okk (fun a ha => (held_free E g1 ods pl (hA a ha)).1) (fun a ha => (held_free (ws := own.map (·.2)) E g1 ods pl (hA a ha)).2) hsz hD q fun F' H' k ob => ?_
      · obtain ⟨s0, _, c⟩ := in_slot hs
        rcases c with ⟨_, e⟩ | ⟨v', _⟩ | ⟨v', _⟩
        · exact e
        · rw [v] at v'; cases v'
        · rw [v] at v'; cases v'
      · have ko : Go X.K σ ρ1 F1 H1 σ (outE (zq6x os) (own.map (·.2)) 0 ρ1 ρf) F' H' := go_out (σo := σ) g1.env k.go (by rw [wipe_length]) (fun i v => (wipe_out' v).symm) (fun i _ => rfl)
        have hlen : ρ1.length = ρf.length := by rw [k.go.len, inE_length]
        have koE : GoE X.K σ ρ1 F1 H1 (outE (zq6x os) (own.map (·.2)) 0 ρ1 ρf) F' H' := ⟨ko, fun i d hi => by
          obtain ⟨s0, s, h0, hf, c⟩ := out_slot hlen hi
          rcases c with ⟨_, e⟩ | ⟨_, e⟩
          · subst e; exact ⟨d, h0⟩
          · subst e
            obtain ⟨d0, hd0⟩ := k.ow i d hf
            obtain ⟨s1, hs1, c1⟩ := in_slot hd0
            rcases c1 with ⟨_, e⟩ | ⟨_, _, e⟩ | ⟨_, _, e⟩
            · cases e
            · cases s1 <;> cases e
            · subst e; exact ⟨d0, hs1⟩⟩
        exact h1 F' H' (g1.trans koE) _ ⟨D, rfl, none_of_dom g1.go.evo.dom hD, ob⟩
  · exact h1.elim
theorem de_lc {scope : Scope} {own : List (Str × Nat)} {ifs : List Expr} (hc : X.calm = true) (hN : X.N.Nodup) (hi : DI X W tg iter it) (ok : BlkOk X.N X.env.scope scope own) (hsub : ∀ i ∈ is, i ∈ own.map (·.2))
    (hg : ∀ (s : Shared) (H : Hp) (C : Addr) (cl : List (Str × Addr)) (fp : List Addr), DG (X.blk s H scope (compEnvC scope cl C X.env) fp) is tg g) (ht : ∀ (s : Shared) (H : Hp) (C : Addr) (cl : List (Str × Addr)) (fp : List Addr), DTs (X.blk s H scope (compEnvC scope cl C X.env) fp) noX ifs t)
    (he : ∀ (s : Shared) (H : Hp) (C : Addr) (cl : List (Str × Addr)) (fp : List Addr), DE (X.blk s H scope (compEnvC scope cl C X.env) fp) noX elt f) (hs : ∀ x, foldedSetIterable iter X.env x = pure x := by intro _; rfl) :
    DE X W (.ListComp elt [⟨tg, iter, ifs, 0⟩] scope pos) (sLc it g t f (own.map (·.2))) := by
  obtain ⟨wi, pi, qi⟩ := hi.ex
  exact ⟨_, pe_lc hc hN pi ok (fun s H C cl fp => (hg s H C cl fp).can) (fun s H C cl fp => (ht s H C cl fp).run) (fun s H C cl fp => (he s H C cl fp).can) hs, lc_read (scope := scope) (ifs := ifs) hsub qi⟩
theorem ds_asgLc {i : Nat} {y : Str} {py spos : Pos} {scope : Scope} {own : List (Str × Nat)} {ifs : List Expr} (hc : X.calm = true) (hN : X.N.Nodup) (hy : X.N[i]? = some y) (hyl : X.env.scope.names.lookup y = some .local)
    (hsw : swapsWith (.ListComp elt [⟨tg, iter, ifs, 0⟩] scope pos) (some (.Name y py)) spos.line X.env = pure true) (hi : DI X W tg iter it) (ok : BlkOk X.N X.env.scope scope own) (hsub : ∀ i ∈ is, i ∈ own.map (·.2))
    (hg : ∀ (s : Shared) (H : Hp) (C : Addr) (cl : List (Str × Addr)) (fp : List Addr), DG (X.blk s H scope (compEnvC scope cl C X.env) fp) is tg g) (ht : ∀ (s : Shared) (H : Hp) (C : Addr) (cl : List (Str × Addr)) (fp : List Addr), DTs (X.blk s H scope (compEnvC scope cl C X.env) fp) noX ifs t)
    (he : ∀ (s : Shared) (H : Hp) (C : Addr) (cl : List (Str × Addr)) (fp : List Addr), DE (X.blk s H scope (compEnvC scope cl C X.env) fp) noX elt f) (hs : ∀ x, foldedSetIterable iter X.env x = pure x := by intro _; rfl) :
    DS X W (.Assign [.Name y py] (.ListComp elt [⟨tg, iter, ifs, 0⟩] scope pos) spos) (sAsg i (sLc it g t f (own.map (·.2)))) := by
  obtain ⟨wi, pi, qi⟩ := hi.ex
  exact ⟨_, ps_setLc hc hN hy hyl hsw pi ok (fun s H C cl fp => (hg s H C cl fp).can) (fun s H C cl fp => (ht s H C cl fp).run) (fun s H C cl fp => (he s H C cl fp).can) hs, asg_core (lc_read (scope := scope) (ifs := ifs) hsub qi)⟩
/-! ### what is walked: lists, tuples, ranges -/
theorem pi_or {l : Expr} {w1 w2 : TI} (h1 : PI X tg l w1) (h2 : PI X tg l w2) : PI X tg l (fun σ H R => w1 σ H R ∨ w2 σ H R) := ⟨fun pins s σ H R I h => by
  rcases h with h | h
  · exact h1.run pins s σ H R I h
  · exact h2.run pins s σ H R I h⟩
def itO (o : Op) : En → Res (List PyData × List Op) := fun ρ => match o with
  | .v (.list ds) => .ok (ds, []) ρ
  | .v (.tuple ds) => .ok (ds, []) ρ
  | .fr (.list ds) => .ok (ds, [.fr (.list ds)]) ρ
  | .pl i => (match ρ[i]? with
    | some (.own (.list ds)) => .ok (ds, [.pl i]) ρ
    | some (.inn (.list ds)) => .ok (ds, [.pl i]) ρ
    | some (.bor (.list ds)) => .ok (ds, [.pl i]) ρ
    | _ => .bad)
  | _ => .bad
def sItr (f : En → Res Op) : En → Res (List PyData × List Op) := bnd f itO
theorem itok_list {K : PySem.W.Frag} {F H : Hp} {a : Addr} {xs : List V} {ds : List PyData} {A : Addr → Prop} (h : SqL K F a xs ∨ (H a = some (.lst xs) ∧ A a)) (r : RpL K F xs ds) : ItOk K A F H (Itl K a) ds := ⟨fun F2 H2 s1 s2 k => by
  have hq : SqL K H2 a xs := by
    rcases h with h | ⟨h, ha⟩
    · exact same_sqL (s1.trans s2) h
    · exact .inl (.inl (k a _ ha h))
  refine ⟨⟨xs, hq, by rw [r.length]; exact Nat.le_refl _⟩, fun i d hd => ?_⟩
  obtain ⟨v, hv, rv⟩ := r.get hd
  refine ⟨⟨xs, v, hq, hv⟩, fun x H3 ⟨e, y⟩ => ?_⟩
  subst e
  have e := y xs hq
  rw [hv] at e
  cases e
  exact ⟨F2, .refl, s2, rv.mono s1⟩⟩
theorem itok_tup {K : PySem.W.Frag} {F H : Hp} {a : Addr} {xs : List V} {ds : List PyData} {A : Addr → Prop} (h : SqT K F a xs) (r : RpL K F xs ds) : ItOk K A F H (Itt K a) ds := ⟨fun F2 H2 s1 s2 k => by
  have hq : SqT K H2 a xs := same_sqT (s1.trans s2) h
  refine ⟨⟨xs, hq, by rw [r.length]; exact Nat.le_refl _⟩, fun i d hd => ?_⟩
  obtain ⟨v, hv, rv⟩ := r.get hd
  refine ⟨⟨xs, v, hq, hv⟩, fun x H3 ⟨e, y⟩ => ?_⟩
  subst e
  have e := y xs hq
  rw [hv] at e
  cases e
  exact ⟨F2, .refl, s2, rv.mono s1⟩⟩
theorem di_seq {l : Expr} (ha : DE X W l f) : DI X W tg l (sItr f) := by
  obtain ⟨ta, pa, sa⟩ := ha.ex
  refine ⟨_, pi_or (pi_list pa) (pi_tup pa), fun σ F H ρ R E h => ?_⟩
  unfold sItr bnd at h
  cases e : f ρ with
  | bad => simp only [e] at h; exact h.elim
  | exc c ρ1 => simp only [e] at h; exact .inl (sa σ F H ρ _ E (by rw [e]; exact h))
  | ok o ρ1 =>
    simp only [e] at h
    by_cases ht : ∃ ds, o = .v (.tuple ds)
    · obtain ⟨ds, rfl⟩ := ht
      refine .inr (sa σ F H ρ _ E (by
        rw [e]
        intro F1 H1 g1 v r
        cases r with
        | tup h1 r1 => exact ⟨_, rfl, ⟨_, same_sqT g1.env.le h1.sq⟩, h F1 H1 g1 (Itt X.K _) (fun _ => False) [] trivial (fun _ m => nomatch m) (fun _ z => z.elim) (itok_tup h1.sq r1)⟩))
    · refine .inl (sa σ F H ρ _ E (by
        rw [e]
        intro F1 H1 g1 v r
        cases o with
        | v d =>
          cases d with
          | list ds =>
            cases r with
            | lst h1 r1 => exact ⟨_, rfl, ⟨_, same_sqL g1.env.le h1⟩, h F1 H1 g1 (Itl X.K _) (fun _ => False) [] trivial (fun _ m => nomatch m) (fun _ z => z.elim) (itok_list (.inl h1) r1)⟩
          | tuple ds => exact absurd ⟨ds, rfl⟩ ht
          | _ => exact h.elim
        | fr d =>
          cases d with
          | list ds =>
            obtain ⟨a, rfl, n, xs, hH, hF, rx⟩ := r
            refine ⟨a, rfl, ⟨xs, .inl (.inl hH)⟩, h F1 H1 g1 (Itl X.K a) (fun b => b = a) [.ref a] ⟨⟨a, rfl, n, xs, hH, hF, rx⟩, trivial⟩ (fun o m i z => ?_) (fun b z => ⟨0, _, by rw [z]; rfl, rfl, fun d z => by cases z⟩) (itok_list (.inr ⟨hH, rfl⟩) rx)⟩
            rw [List.mem_singleton.mp m] at z; cases z
          | _ => exact h.elim
        | pl i =>
          have r : σ[i]? = some (some v) := r
          unfold itO at h
          cases q : ρ1[i]? with
          | none => simp only [q] at h; exact h.elim
          | some s =>
            simp only [q] at h
            obtain ⟨w, e1, e2⟩ := g1.env.sl i s q
            rw [r] at e1; cases e1
            have fin : ∀ (a : Addr) (ds : List PyData), v = .ref a → s.plc = true → Ob X.K F1 H1 a (.list ds) → Post X.K W σ ρ F H (Res.ok (ds, [Op.pl i]) ρ1) (fun p ρ' F' H' => ∀ J A vs, OdsA X.K H F' H' σ vs p.2 → (∀ o ∈ p.2, ∀ i, o = .pl i → ∃ s, ρ'[i]? = some s ∧ s.plc = true) → (∀ a, A a → ∃ (k : Nat) (o : Op), vs[k]? = some (V.ref a) ∧ p.2[k]? = some o ∧ ∀ d, o ≠ .v d) → ItOk X.K A F' H' J p.1 → R J H') →
                ∃ a, v = .ref a ∧ (∃ xs, SqL X.K H1 a xs) ∧ R (Itl X.K a) H1 := by
              rintro a ds rfl hp ⟨xs, hH, hF, rx⟩ h
              refine ⟨a, rfl, ⟨xs, .inl (.inl hH)⟩, h F1 H1 g1 (Itl X.K a) (fun b => b = a) [.ref a] ⟨r, trivial⟩ (fun o m j z => ?_) (fun b z => ⟨0, _, by rw [z]; rfl, rfl, fun d z => by cases z⟩) (itok_list (.inr ⟨hH, rfl⟩) rx)⟩
              rw [List.mem_singleton.mp m] at z; cases z
              exact ⟨s, q, hp⟩
            cases s with
            | no => exact h.elim
            | val d => exact h.elim
            | fix d => exact h.elim
            | own d =>
              cases d with
              | list ds => obtain ⟨a, e3, ob⟩ := e2; cases e3; exact fin a ds rfl rfl ob h
              | _ => exact h.elim
            | inn d =>
              cases d with
              | list ds => obtain ⟨a, e3, ob⟩ := e2; cases e3; exact fin a ds rfl rfl ob h
              | _ => exact h.elim
            | bor d =>
              cases d with
              | list ds => obtain ⟨a, e3, ob⟩ := e2; cases e3; exact fin a ds rfl rfl ob h
              | _ => exact h.elim))
def rng (lo : Int) (n : Nat) : List PyData := (List.range n).map fun i => .int (lo + (i : Nat))
theorem itok_rng {K : PySem.W.Frag} {F H : Hp} {lo : Int} {n : Nat} {A : Addr → Prop} : ItOk K A F H (Itr lo n) (rng lo n) := ⟨fun F2 H2 s1 s2 k => by
  have hl : (rng lo n).length = n := by unfold rng; rw [List.length_map, List.length_range]
  refine ⟨by rw [hl]; exact Nat.le_refl _, fun i d hd => ?_⟩
  have hi : i < n := by rw [← hl]; exact (List.getElem?_eq_some_iff.mp hd).1
  refine ⟨hi, fun x H3 ⟨e1, e2⟩ => ?_⟩
  subst e1 e2
  have : d = .int (lo + (i : Nat)) := by
    unfold rng at hd
    rw [List.getElem?_map, List.getElem?_range hi] at hd
    exact (Option.some.inj hd).symm
  subst this
  exact ⟨F2, .refl, s2, .int _⟩⟩
def sRng1 (gs : En → Res (List Op)) : En → Res (List PyData × List Op) := bnd gs fun os => bnd (rdds os) fun ds ρ => match ds with
  | [.int j] => if -(2 ^ 62) ≤ j ∧ j < 2 ^ 62 then .ok (rng 0 j.toNat, []) ρ else .bad
  | _ => .bad
def sRng2 (gs : En → Res (List Op)) : En → Res (List PyData × List Op) := bnd gs fun os => bnd (rdds os) fun ds ρ => match ds with
  | [.int i, .int j] => if -(2 ^ 62) ≤ i ∧ i < 2 ^ 62 ∧ -(2 ^ 62) ≤ j ∧ j < 2 ^ 62 then .ok (rng i (j - i).toNat, []) ρ else .bad
  | _ => .bad
theorem di_rng1 {a : Expr} {p : Pos} {gs : En → Res (List Op)} (hgl : Gl X "range") (hm : X.mg "range" = none) (ha : DA X W [a] gs) (hs : starEach [a] X.env = [(false, eval a X.env)] := by rfl) : DI X W tg (.Call (.Name "range" p) [a] [] pos) (sRng1 gs) := by
  obtain ⟨ta, pa, sa⟩ := ha.ex
  refine ⟨_, pi_range1 hgl hm pa hs, fun σ F H ρ R E h => sa σ F H ρ _ E (h.fst fun os ρ1 F1 H1 _ g1 h1 vs ods => ?_)⟩
  rcases rdds_ok g1.env ods.all with ⟨ds, e1, rs⟩ | e1
  · unfold bnd at h1
    simp only [e1] at h1
    split at h1
    · rename_i j
      split at h1
      · rename_i hb
        obtain ⟨v, rfl, r⟩ := rds1 rs
        rw [rd1_int r]
        exact ⟨j, rfl, hb.1, hb.2, h1 F1 H1 g1 (Itr 0 j.toNat) (fun _ => False) [] trivial (fun _ m => nomatch m) (fun _ z => z.elim) itok_rng⟩
      · exact h1.elim
    · exact h1.elim
  · unfold bnd at h1
    simp only [e1] at h1
    exact h1.elim
theorem di_rng2 {a b : Expr} {p : Pos} {gs : En → Res (List Op)} (hgl : Gl X "range") (hm : X.mg "range" = none) (ha : DA X W [a, b] gs) (hs : starEach [a, b] X.env = [(false, eval a X.env), (false, eval b X.env)] := by rfl) (hs2 : starEach [b] X.env = [(false, eval b X.env)] := by rfl) : DI X W tg (.Call (.Name "range" p) [a, b] [] pos) (sRng2 gs) := by
  obtain ⟨ta, pa, sa⟩ := ha.ex
  refine ⟨_, pi_range2 hgl hm pa hs hs2, fun σ F H ρ R E h => sa σ F H ρ _ E (h.fst fun os ρ1 F1 H1 _ g1 h1 vs ods => ?_)⟩
  rcases rdds_ok g1.env ods.all with ⟨ds, e1, rs⟩ | e1
  · unfold bnd at h1
    simp only [e1] at h1
    split at h1
    · rename_i i j
      split at h1
      · rename_i hb
        obtain ⟨v, w, rfl, r1, r2⟩ := rds2 rs
        rw [rd1_int r1, rd1_int r2]
        exact ⟨i, j, rfl, hb, h1 F1 H1 g1 (Itr i (j - i).toNat) (fun _ => False) [] trivial (fun _ m => nomatch m) (fun _ z => z.elim) itok_rng⟩
      · exact h1.elim
    · exact h1.elim
  · unfold bnd at h1
    simp only [e1] at h1
    exact h1.elim
end
end Py
end L2

namespace L2
namespace Py
open PySem PySem.Spec PyProof.Rows
/-! ### calls -/
def argS (ρ : En) : Op → Option Sl
  | .v d => some (.val d)
  | .fr d => some (.inn d)
  | .pl i => match ρ[i]? with
    | some (.own d) => some (.inn d)
    | some (.inn d) => some (.inn d)
    | some (.bor d) => some (.bor d)
    | some (.val d) => some (.val d)
    | some (.fix d) => some (.val d)
    | _ => none
def zq6w (ρ : En) : List Op → Option En
  | [] => some []
  | o :: os => match argS ρ o with
    | some s => (match zq6w ρ os with
      | some ss => some (s :: ss)
      | none => none)
    | none => none
def ndN : List Nat → Bool
  | [] => true
  | i :: l => !l.contains i && ndN l
def bkS : Sl → Sl → Sl
  | .own _, .inn d => .own d
  | .own _, .fix d => .val d
  | .inn _, .inn d => .inn d
  | .inn _, .fix d => .fix d
  | s, _ => s
def zq6z : List Op → En → Nat → Sl → Sl
  | .pl j :: os, o :: outs, i, s => if j = i then bkS s o else zq6z os outs i s
  | .v _ :: os, _ :: outs, i, s => zq6z os outs i s
  | .fr _ :: os, _ :: outs, i, s => zq6z os outs i s
  | _, _, _, s => s
def zq6y (os : List Op) (outs : En) : Nat → En → En
  | _, [] => []
  | k, s :: ρ => zq6z os outs k s :: zq6y os outs (k + 1) ρ
/-- where no thing of a slot is handed over, all slots stay -/
def back (os : List Op) (outs : En) (ρ : En) : En := match zq6x os with
  | [] => ρ
  | _ => zq6y os outs 0 ρ
def callF (fs : En → Res Op) (os : List Op) : En → Res Op := fun ρ => match zq6w ρ os with
  | some ps => if ndN (zq6x os) = true then (match fs ps with
    | .ok (.v d) outs => .ok (.v d) (back os outs ρ)
    | .ok (.fr d) outs => .ok (.fr d) (back os outs ρ)
    | _ => .bad) else .bad
  | none => .bad
def sCall (fs : En → Res Op) (g : En → Res (List Op)) : En → Res Op := bnd g (callF fs)
/-- what may be handed in -/
def Sl.arg : Sl → Bool
  | .val _ => true
  | .inn _ => true
  | .bor _ => true
  | _ => false
def OutOk : Sl → Sl → Prop
  | .inn _, o => (∃ d, o = .inn d) ∨ ∃ d, o = .fix d
  | p, o => o = p
structure OutsOk (ps outs : En) : Prop where
  len : outs.length = ps.length
  ok : ∀ (i : Nat) (p o : Sl), ps[i]? = some p → outs[i]? = some o → OutOk p o
/-- a def's promise, by its semantics -/
def spF (K : PySem.W.Frag) (n : Nat) (fs : En → Res Op) : Sp := fun vs H Q _ => ∃ F ps, vs.length = n ∧ EnvR K F H (vs.map some) ps ∧ (∀ s ∈ ps, s.arg = true) ∧ match fs ps with
  | .ok r outs => ∀ v F' H', Evo (ownA (vs.map some) ps) F H F' H' → EnvR K F' H' (vs.map some) outs → OutsOk ps outs → OdR K H F' H' [] v r → Q v H'
  | _ => False
theorem backE_get {os : List Op} {outs : En} : ∀ (k : Nat) (ρ : En) (i : Nat), (zq6y os outs k ρ)[i]? = (ρ[i]?).map (zq6z os outs (k + i))
  | _, [], i => by simp [zq6y]
  | k, s :: ρ, 0 => by simp [zq6y]
  | k, s :: ρ, i + 1 => by
    simp only [zq6y, List.getElem?_cons_succ]
    rw [backE_get (k + 1) ρ i]
    have e : k + 1 + i = k + (i + 1) := by omega
    rw [e]
theorem backE_length {os : List Op} {outs : En} : ∀ (k : Nat) (ρ : En), (zq6y os outs k ρ).length = ρ.length
  | _, [] => rfl
  | k, s :: ρ => by simp only [zq6y, List.length_cons, backE_length (k + 1) ρ]
theorem backSl_cases : ∀ (os : List Op) (outs : En) (i : Nat) (s : Sl), os.length = outs.length → (zq6z os outs i s = s ∧ ∀ k : Nat, os[k]? ≠ some (.pl i)) ∨ ∃ (k : Nat) (o : Sl), os[k]? = some (.pl i) ∧ outs[k]? = some o ∧ zq6z os outs i s = bkS s o
  | [], outs, i, s, _ => .inl ⟨rfl, fun k => by simp⟩
  | _ :: _, [], _, _, h => by cases h
  | o :: os, q :: outs, i, s, h => by
    have ih0 := backSl_cases os outs i s (by simpa using h)
    have skip : zq6z (o :: os) (q :: outs) i s = zq6z os outs i s → o ≠ .pl i → (zq6z (o :: os) (q :: outs) i s = s ∧ ∀ k : Nat, (o :: os)[k]? ≠ some (.pl i)) ∨ ∃ (k : Nat) (o' : Sl), (o :: os)[k]? = some (.pl i) ∧ (q :: outs)[k]? = some o' ∧ zq6z (o :: os) (q :: outs) i s = bkS s o' := fun e ne => by
      rw [e]
      rcases ih0 with ⟨e1, n⟩ | ⟨k, o', h1, h2, h3⟩
      · refine .inl ⟨e1, fun k z => ?_⟩
        cases k with
        | zero => simp at z; exact ne z
        | succ k => exact n k (by simpa using z)
      · exact .inr ⟨k + 1, o', by simpa using h1, by simpa using h2, h3⟩
    cases o with
    | v d => exact skip rfl (by intro z; cases z)
    | fr d => exact skip rfl (by intro z; cases z)
    | pl j =>
      by_cases e : j = i
      · subst e
        exact .inr ⟨0, q, rfl, rfl, by unfold zq6z; rw [if_pos rfl]⟩
      · exact skip (by conv => lhs; unfold zq6z; rw [if_neg e]) (by intro z; cases z; exact e rfl)
theorem argsS_len {ρ : En} : ∀ {os : List Op} {ps : En}, zq6w ρ os = some ps → ps.length = os.length
  | [], _, h => by cases h; rfl
  | o :: os, ps, h => by
    unfold zq6w at h
    split at h
    · split at h
      · rename_i e; cases h; rw [List.length_cons, List.length_cons, argsS_len e]
      · cases h
    · cases h
theorem argsS_get {ρ : En} : ∀ {os : List Op} {ps : En} {k : Nat} {o : Op}, zq6w ρ os = some ps → os[k]? = some o → ∃ s, ps[k]? = some s ∧ argS ρ o = some s
  | [], _, _, _, _, h => by simp at h
  | o :: os, ps, k, o', h, h2 => by
    unfold zq6w at h
    split at h
    · rename_i s e1
      split at h
      · rename_i ss e
        cases h
        cases k with
        | zero => simp at h2; subst h2; exact ⟨s, rfl, e1⟩
        | succ k => obtain ⟨t, h3, h4⟩ := argsS_get e (by simpa using h2); exact ⟨t, by simpa using h3, h4⟩
      · cases h
    · cases h
theorem ods_at {K : PySem.W.Frag} {H0 F H : Hp} {σ : St} : ∀ {vs : List V} {os : List Op} {k : Nat} {v : V} {o : Op}, OdsA K H0 F H σ vs os → vs[k]? = some v → os[k]? = some o → OdR K H0 F H σ v o
  | [], _, _, _, _, _, h, _ => by simp at h
  | _ :: _, [], _, _, _, h, _, _ => h.elim
  | w :: ws, o' :: os, 0, v, o, hO, h, h2 => by simp at h h2; subst h h2; exact hO.1
  | w :: ws, o' :: os, k + 1, v, o, hO, h, h2 => ods_at hO.2 (by simpa using h) (by simpa using h2)
theorem fr_nd : ∀ {vs : List V} {os : List Op} {k l : Nat} {v : V} {d e : PyData}, (frV vs os).Nodup → k ≠ l → vs[k]? = some v → vs[l]? = some v → os[k]? = some (.fr d) → os[l]? = some (.fr e) → False := by
  have mem : ∀ {vs : List V} {os : List Op} {l : Nat} {v : V} {e : PyData}, vs[l]? = some v → os[l]? = some (.fr e) → v ∈ frV vs os := by
    intro vs
    induction vs with
    | nil => intro os l v e h; simp at h
    | cons w ws ih =>
      intro os l v e h1 h2
      cases os with
      | nil => simp at h2
      | cons o os =>
        cases l with
        | zero =>
          simp at h1 h2
          subst h1 h2
          exact List.mem_cons_self
        | succ l =>
          have := ih (by simpa using h1) (by simpa using h2)
          cases o with
          | v d => exact this
          | pl i => exact this
          | fr d => exact List.mem_cons_of_mem _ this
  intro vs
  induction vs with
  | nil => intro os k l v d e _ _ h; simp at h
  | cons w ws ih =>
    intro os k l v d e nd ne h1 h2 h3 h4
    cases os with
    | nil => simp at h3
    | cons o os =>
      have nd' : (frV ws os).Nodup := by
        cases o with
        | v d => exact nd
        | pl i => exact nd
        | fr d => exact (List.nodup_cons.mp nd).2
      cases k with
      | zero =>
        cases l with
        | zero => exact ne rfl
        | succ l =>
          simp at h1 h3
          subst h1 h3
          exact (List.nodup_cons.mp nd).1 (mem (by simpa using h2) (by simpa using h4))
      | succ k =>
        cases l with
        | zero =>
          simp at h2 h4
          subst h2 h4
          exact (List.nodup_cons.mp nd).1 (mem (by simpa using h1) (by simpa using h3))
        | succ l => exact ih nd' (fun z => ne (congrArg (· + 1) z)) (by simpa using h1) (by simpa using h2) (by simpa using h3) (by simpa using h4)
theorem ndN_pl : ∀ {os : List Op} {k l i : Nat}, ndN (zq6x os) = true → k ≠ l → os[k]? = some (.pl i) → os[l]? = some (.pl i) → False := by
  have mem : ∀ {os : List Op} {l i : Nat}, os[l]? = some (.pl i) → i ∈ zq6x os := by
    intro os
    induction os with
    | nil => intro l i h; simp at h
    | cons o os ih =>
      intro l i h
      cases l with
      | zero => simp at h; subst h; exact List.mem_cons_self
      | succ l =>
        have := ih (l := l) (i := i) (by simpa using h)
        cases o with
        | v d => exact this
        | fr d => exact this
        | pl j => exact List.mem_cons_of_mem _ this
  intro os
  induction os with
  | nil => intro k l i _ _ h; simp at h
  | cons o os ih =>
    intro k l i nd ne h1 h2
    have nd' : ndN (zq6x os) = true := by
      cases o with
      | v d => exact nd
      | fr d => exact nd
      | pl j =>
        have nd : (!(zq6x os).contains j && ndN (zq6x os)) = true := nd
        exact (Bool.and_eq_true_iff.mp nd).2
    have hd : ∀ j, o = .pl j → j ∉ zq6x os := fun j e z => by
      subst e
      have nd : (!(zq6x os).contains j && ndN (zq6x os)) = true := nd
      rw [List.contains_iff_mem.mpr z] at nd
      cases nd
    cases k with
    | zero =>
      cases l with
      | zero => exact ne rfl
      | succ l => simp at h1; exact hd i h1 (mem (l := l) (by simpa using h2))
    | succ k =>
      cases l with
      | zero => simp at h2; exact hd i h2 (mem (l := k) (by simpa using h1))
      | succ l => exact ih nd' (fun z => ne (congrArg (· + 1) z)) (by simpa using h1) (by simpa using h2)
section
variable {K : PySem.W.Frag} {σ : St} {ρ ρ1 ps outs : En} {F H F1 H1 F' H' : Hp} {os : List Op} {vs : List V}
theorem map_some_get {vs : List V} {k : Nat} {o : Option V} (h : (vs.map some)[k]? = some o) : ∃ v, o = some v ∧ vs[k]? = some v := by
  rw [List.getElem?_map] at h
  cases q : vs[k]? with
  | none => rw [q] at h; cases h
  | some v => rw [q] at h; cases h; exact ⟨v, rfl, rfl⟩
theorem map_some_put {vs : List V} {k : Nat} {v : V} (h : vs[k]? = some v) : (vs.map some)[k]? = some (some v) := by rw [List.getElem?_map, h]; rfl
/-- where a place stood at the start -/
theorem old_place (E : EnvR K F H σ ρ) (g : GoE K σ ρ F H ρ1 F1 H1) {j : Nat} {t : Sl} {b : Addr} (q : ρ1[j]? = some t) (p : t.plc = true) (z : σ[j]? = some (some (.ref b))) : ∃ x, H b = some x := by
  cases t with
  | no => cases p
  | val d => cases p
  | fix d => cases p
  | own d => obtain ⟨d0, q0⟩ := g.ow j d q; exact (E.plc_there q0 rfl z).1
  | inn d => obtain ⟨d0, q0⟩ := g.go.inn j d q; exact (E.plc_there q0 rfl z).1
  | bor d => exact (E.plc_there (g.go.bor j d q) rfl z).1
/-- an argument that is a thing: a new one, or a slot's -/
theorem arg_plc (ods : OdsA K H F1 H1 σ vs os) (ha : zq6w ρ1 os = some ps) {k : Nat} {t : Sl} {a : Addr} (hp : ps[k]? = some t) (pl : t.plc = true) (hv : vs[k]? = some (.ref a)) :
    (∃ d, os[k]? = some (.fr d) ∧ H a = none) ∨ ∃ (i : Nat) (s : Sl), os[k]? = some (.pl i) ∧ ρ1[i]? = some s ∧ s.plc = true ∧ σ[i]? = some (some (.ref a)) ∧ (t.mut = true → s.mut = true) := by
  have hk : k < os.length := by rw [← argsS_len ha]; exact (List.getElem?_eq_some_iff.mp hp).1
  obtain ⟨t', e1, e2⟩ := argsS_get ha (List.getElem?_eq_getElem hk)
  rw [hp] at e1; cases e1
  have r := ods_at ods hv (List.getElem?_eq_getElem hk)
  rw [List.getElem?_eq_getElem hk]
  generalize os[k] = o at e2 r
  cases o with
  | v d => cases e2; cases pl
  | fr d => obtain ⟨b, e, n, _⟩ := r; cases e; exact .inl ⟨d, rfl, n⟩
  | pl i =>
    unfold argS at e2
    cases q : ρ1[i]? with
    | none => simp only [q] at e2; cases e2
    | some s =>
      simp only [q] at e2
      right
      cases s with
      | no => cases e2
      | val d => cases e2; cases pl
      | fix d => cases e2; cases pl
      | own d => cases e2; exact ⟨i, _, rfl, q, rfl, r, fun _ => rfl⟩
      | inn d => cases e2; exact ⟨i, _, rfl, q, rfl, r, fun _ => rfl⟩
      | bor d => cases e2; exact ⟨i, _, rfl, q, rfl, r, fun z => by cases z⟩
theorem args_env (E : EnvR K F H σ ρ) (g : GoE K σ ρ F H ρ1 F1 H1) (ods : Ods K H F1 H1 σ vs os) (nd : ndN (zq6x os) = true) (ha : zq6w ρ1 os = some ps) : EnvR K F1 H1 (vs.map some) ps ∧ ∀ s ∈ ps, s.arg = true := by
  have hl := argsS_len ha
  have hlv := ods.all.len
  refine ⟨⟨by rw [List.length_map, hlv, hl], g.env.le, fun k t h => ?_, fun k l s t a ne h1 h2 m p z1 z2 => ?_⟩, fun s hs => ?_⟩
  · have hk : k < os.length := by rw [← hl]; exact (List.getElem?_eq_some_iff.mp h).1
    have hkv : k < vs.length := by rw [hlv]; exact hk
    obtain ⟨t', e1, e2⟩ := argsS_get ha (List.getElem?_eq_getElem hk)
    rw [h] at e1; cases e1
    have r := ods_at ods.all (List.getElem?_eq_getElem hkv) (List.getElem?_eq_getElem hk)
    refine ⟨_, map_some_put (List.getElem?_eq_getElem hkv), ?_⟩
    generalize os[k] = o at e2 r
    cases o with
    | v d => cases e2; exact ⟨_, rfl, r⟩
    | fr d => cases e2; obtain ⟨b, e, n, ob⟩ := r; exact ⟨b, by rw [e], ob⟩
    | pl i =>
      have r : σ[i]? = some (some _) := r
      unfold argS at e2
      cases q : ρ1[i]? with
      | none => simp only [q] at e2; cases e2
      | some s =>
        simp only [q] at e2
        obtain ⟨o, x1, x2⟩ := g.env.sl i s q
        rw [r] at x1; cases x1
        cases s with
        | no => cases e2
        | val d => cases e2; exact x2
        | fix d => cases e2; exact x2
        | own d => cases e2; exact x2
        | inn d => cases e2; exact x2
        | bor d => cases e2; exact x2
  · obtain ⟨v1, e1, w1⟩ := map_some_get z1
    obtain ⟨v2, e2, w2⟩ := map_some_get z2
    cases e1; cases e2
    rcases arg_plc ods.all ha h1 (Sl.plc_of_mut m) w1 with ⟨d1, o1, n1⟩ | ⟨i, s1, o1, q1, p1, y1, mm⟩
    · rcases arg_plc ods.all ha h2 p w2 with ⟨d2, o2, n2⟩ | ⟨j, s2, o2, q2, p2, y2, _⟩
      · exact fr_nd ods.nd ne w1 w2 o1 o2
      · obtain ⟨x, hx⟩ := old_place E g q2 p2 y2
        rw [n1] at hx; cases hx
    · rcases arg_plc ods.all ha h2 p w2 with ⟨d2, o2, n2⟩ | ⟨j, s2, o2, q2, p2, y2, _⟩
      · obtain ⟨x, hx⟩ := old_place E g q1 p1 y1
        rw [n2] at hx; cases hx
      · have nij : i ≠ j := fun e => by subst e; exact ndN_pl nd ne o1 o2
        exact g.env.inj i j s1 s2 a nij q1 q2 (mm m) p2 y1 y2
  · obtain ⟨k, hk, e⟩ := List.getElem_of_mem hs
    have hko : k < os.length := by rw [← hl]; exact hk
    obtain ⟨t', e1, e2⟩ := argsS_get ha (List.getElem?_eq_getElem hko)
    rw [List.getElem?_eq_getElem hk, e] at e1
    cases e1
    generalize os[k] = o at e2
    cases o with
    | v d => cases e2; rfl
    | fr d => cases e2; rfl
    | pl i =>
      unfold argS at e2
      cases q : ρ1[i]? with
      | none => simp only [q] at e2; cases e2
      | some s => simp only [q] at e2; cases s <;> cases e2 <;> rfl
theorem bkS_mut {s o : Sl} (h : (bkS s o).mut = true) : s.mut = true := by cases s <;> first | rfl | (cases o <;> cases h)
theorem bkS_plc {s o : Sl} (h : (bkS s o).plc = true) : s.plc = true := by cases s <;> first | rfl | (cases o <;> cases h)
theorem call_go (E : EnvR K F H σ ρ) (g : GoE K σ ρ F H ρ1 F1 H1) (ods : Ods K H F1 H1 σ vs os) (nd : ndN (zq6x os) = true) (ha : zq6w ρ1 os = some ps) (ev : Evo (ownA (vs.map some) ps) F1 H1 F' H') (Eo : EnvR K F' H' (vs.map some) outs) (oo : OutsOk ps outs) :
    GoE K σ ρ F H (zq6y os outs 0 ρ1) F' H' := by
  have hl := argsS_len ha
  have hlv := ods.all.len
  have hlo : os.length = outs.length := by rw [oo.len, hl]
  -- what the callee may change
  have chg : ∀ a, ownA (vs.map some) ps a → (∃ (k : Nat) (d : PyData), os[k]? = some (.fr d) ∧ H a = none) ∨ ∃ (k i : Nat) (s : Sl), os[k]? = some (.pl i) ∧ ρ1[i]? = some s ∧ s.mut = true ∧ σ[i]? = some (some (.ref a)) := fun a w => by
    have fin : ∀ (k : Nat) (t : Sl), ps[k]? = some t → t.mut = true → (vs.map some)[k]? = some (some (.ref a)) → (∃ (k : Nat) (d : PyData), os[k]? = some (.fr d) ∧ H a = none) ∨ ∃ (k i : Nat) (s : Sl), os[k]? = some (.pl i) ∧ ρ1[i]? = some s ∧ s.mut = true ∧ σ[i]? = some (some (.ref a)) := fun k t h m z => by
      obtain ⟨v1, e1, w1⟩ := map_some_get z
      cases e1
      rcases arg_plc ods.all ha h (Sl.plc_of_mut m) w1 with ⟨d1, o1, n1⟩ | ⟨i, s1, o1, q1, p1, y1, mm⟩
      · exact .inl ⟨k, d1, o1, n1⟩
      · exact .inr ⟨k, i, s1, o1, q1, mm m, y1⟩
    rcases w with ⟨k, d, h, z⟩ | ⟨k, d, h, z⟩
    · exact fin k _ h rfl z
    · exact fin k _ h rfl z
  have mutA : ∀ (i : Nat) (s : Sl) (a : Addr), ρ1[i]? = some s → s.mut = true → σ[i]? = some (some (.ref a)) → ownA σ ρ1 a := fun i s a h m z => by
    cases s with
    | own d => exact .inl ⟨i, d, h, z⟩
    | inn d => exact .inr ⟨i, d, h, z⟩
    | _ => cases m
  have evo : Evo (ownA σ ρ) F H F' H' := g.go.evo.trans ev fun a w => by
    rcases chg a w with ⟨k, d, _, n⟩ | ⟨k, i, s, _, q, m, z⟩
    · exact .inr n
    · exact .inl (g.ownA (mutA i s a q m z))
  have get : ∀ (i : Nat) (t : Sl), (zq6y os outs 0 ρ1)[i]? = some t → ∃ s, ρ1[i]? = some s ∧ t = zq6z os outs i s := fun i t h => by
    rw [backE_get, Nat.zero_add] at h
    cases q : ρ1[i]? with
    | none => rw [q] at h; cases h
    | some s => rw [q] at h; exact ⟨s, rfl, (Option.some.inj h).symm⟩
  have put : ∀ (i : Nat) (s : Sl), ρ1[i]? = some s → (zq6y os outs 0 ρ1)[i]? = some (zq6z os outs i s) := fun i s h => by rw [backE_get, Nat.zero_add, h]; rfl
  have mutB : ∀ (i : Nat) (s : Sl), (zq6z os outs i s).mut = true → s.mut = true := fun i s h => by
    rcases backSl_cases os outs i s hlo with ⟨e, _⟩ | ⟨k, o, _, _, e⟩
    · rw [e] at h; exact h
    · rw [e] at h; exact bkS_mut h
  have plcB : ∀ (i : Nat) (s : Sl), (zq6z os outs i s).plc = true → s.plc = true := fun i s h => by
    rcases backSl_cases os outs i s hlo with ⟨e, _⟩ | ⟨k, o, _, _, e⟩
    · rw [e] at h; exact h
    · rw [e] at h; exact bkS_plc h
  -- a slot that was handed over
  have handed : ∀ (i k : Nat) (s o : Sl), ρ1[i]? = some s → os[k]? = some (.pl i) → outs[k]? = some o → ∃ v p, σ[i]? = some (some v) ∧ vs[k]? = some v ∧ ps[k]? = some p ∧ argS ρ1 (.pl i) = some p ∧ OutOk p o ∧ SltR K F' H' (some v) o := fun i k s o hs hk ho => by
    have hkl : k < vs.length := by rw [hlv]; exact (List.getElem?_eq_some_iff.mp hk).1
    have r : σ[i]? = some (some vs[k]) := ods_at ods.all (List.getElem?_eq_getElem hkl) hk
    obtain ⟨p, e1, e2⟩ := argsS_get ha hk
    obtain ⟨w, e3, e4⟩ := Eo.sl k o ho
    rw [map_some_put (List.getElem?_eq_getElem hkl)] at e3
    cases e3
    exact ⟨vs[k], p, r, List.getElem?_eq_getElem hkl, e1, e2, oo.ok k p o e1 ho, e4⟩
  have env : EnvR K F' H' σ (zq6y os outs 0 ρ1) := by
    refine ⟨by rw [backE_length]; exact g.env.len, Eo.le, fun i t h => ?_, fun i j s t a ne h1 h2 m p z1 z2 => ?_⟩
    · obtain ⟨s, hs, rfl⟩ := get i t h
      obtain ⟨o, h1, h2⟩ := g.env.sl i s hs
      refine ⟨o, h1, ?_⟩
      rcases backSl_cases os outs i s hlo with ⟨e, n⟩ | ⟨k, q, hk, hq, e⟩
      · rw [e]
        have na : ∀ a, s.plc = true → o = some (.ref a) → ¬ ownA (vs.map some) ps a := fun a p z w => by
          subst z
          rcases chg a w with ⟨k, d, _, nn⟩ | ⟨k, j, s', hk, q, m, z⟩
          · obtain ⟨x, hx⟩ := old_place E g hs p h1
            rw [nn] at hx; cases hx
          · have ne : j ≠ i := fun e => by subst e; exact n k hk
            exact g.env.inj j i s' s a ne q hs m p z h1
        cases s with
        | no => trivial
        | val d => obtain ⟨v, e1, r⟩ := h2; exact ⟨v, e1, r.mono ev.le⟩
        | fix d => obtain ⟨v, e1, r⟩ := h2; exact ⟨v, e1, r.mono ev.le⟩
        | own d => obtain ⟨a, e1, r⟩ := h2; exact ⟨a, e1, r.evo ev (na a rfl e1)⟩
        | inn d => obtain ⟨a, e1, r⟩ := h2; exact ⟨a, e1, r.evo ev (na a rfl e1)⟩
        | bor d => obtain ⟨a, e1, r⟩ := h2; exact ⟨a, e1, r.evo ev (na a rfl e1)⟩
      · rw [e]
        obtain ⟨v, p, x1, x2, x3, x4, x5, x6⟩ := handed i k s q hs hk hq
        rw [x1] at h1; cases h1
        unfold argS at x4
        simp only [hs] at x4
        cases s with
        | no => trivial
        | val d => obtain ⟨v, e1, r⟩ := h2; exact ⟨v, e1, r.mono ev.le⟩
        | fix d => obtain ⟨v, e1, r⟩ := h2; exact ⟨v, e1, r.mono ev.le⟩
        | own d =>
          cases x4
          rcases x5 with ⟨d', rfl⟩ | ⟨d', rfl⟩
          · exact x6
          · exact x6
        | inn d =>
          cases x4
          rcases x5 with ⟨d', rfl⟩ | ⟨d', rfl⟩
          · exact x6
          · exact x6
        | bor d =>
          cases x4
          have x5 : q = .bor d := x5
          subst x5
          exact x6
    · obtain ⟨s0, hs, rfl⟩ := get i s h1
      obtain ⟨t0, ht, rfl⟩ := get j t h2
      exact g.env.inj i j s0 t0 a ne hs ht (mutB i s0 m) (plcB j t0 p) z1 z2
  have kindB : ∀ (i : Nat) (s : Sl), ρ1[i]? = some s → (∀ d, s = .own d → (∃ d', zq6z os outs i s = .own d') ∨ ∃ d', zq6z os outs i s = .val d') ∧ (∀ d, s = .inn d → (∃ d', zq6z os outs i s = .inn d') ∨ ∃ d', zq6z os outs i s = .fix d') ∧ (s.mut = false → zq6z os outs i s = s) := fun i s hs => by
    rcases backSl_cases os outs i s hlo with ⟨e, n⟩ | ⟨k, q, hk, hq, e⟩
    · rw [e]
      exact ⟨fun d z => .inl ⟨d, z⟩, fun d z => .inl ⟨d, z⟩, fun _ => rfl⟩
    · rw [e]
      obtain ⟨v, p, x1, x2, x3, x4, x5, x6⟩ := handed i k s q hs hk hq
      unfold argS at x4
      simp only [hs] at x4
      refine ⟨fun d z => ?_, fun d z => ?_, fun m => ?_⟩
      · subst z
        cases x4
        rcases x5 with ⟨d', rfl⟩ | ⟨d', rfl⟩
        · exact .inl ⟨d', rfl⟩
        · exact .inr ⟨d', rfl⟩
      · subst z
        cases x4
        rcases x5 with ⟨d', rfl⟩ | ⟨d', rfl⟩
        · exact .inl ⟨d', rfl⟩
        · exact .inr ⟨d', rfl⟩
      · cases s <;> first | rfl | cases m
  have back1 : ∀ (i : Nat) (t : Sl), (zq6y os outs 0 ρ1)[i]? = some t → (∀ d, t = .own d → ∃ d0, ρ1[i]? = some (.own d0)) ∧ (∀ d, t = .inn d → ∃ d0, ρ1[i]? = some (.inn d0)) ∧ (∀ d, t = .bor d → ρ1[i]? = some (.bor d)) := fun i t h => by
    obtain ⟨s, hs, rfl⟩ := get i t h
    obtain ⟨k1, k2, k3⟩ := kindB i s hs
    cases s with
    | own d =>
      rcases k1 d rfl with ⟨d', e⟩ | ⟨d', e⟩
      · rw [e]; exact ⟨fun _ _ => ⟨d, hs⟩, fun _ z => by (cases z), fun _ z => by (cases z)⟩
      · rw [e]; exact ⟨fun _ z => by (cases z), fun _ z => by (cases z), fun _ z => by (cases z)⟩
    | inn d =>
      rcases k2 d rfl with ⟨d', e⟩ | ⟨d', e⟩
      · rw [e]; exact ⟨fun _ z => by (cases z), fun _ _ => ⟨d, hs⟩, fun _ z => by (cases z)⟩
      · rw [e]; exact ⟨fun _ z => by (cases z), fun _ z => by (cases z), fun _ z => by (cases z)⟩
    | no => rw [k3 rfl]; exact ⟨fun _ z => by (cases z), fun _ z => by (cases z), fun _ z => by (cases z)⟩
    | val d => rw [k3 rfl]; exact ⟨fun _ z => by (cases z), fun _ z => by (cases z), fun _ z => by (cases z)⟩
    | fix d => rw [k3 rfl]; exact ⟨fun _ z => by (cases z), fun _ z => by (cases z), fun _ z => by (cases z)⟩
    | bor d => rw [k3 rfl]; exact ⟨fun _ z => by (cases z), fun _ z => by (cases z), fun _ z => by cases z; exact hs⟩
  refine ⟨⟨evo, env, fun a w => ?_, fun i d h => ?_, fun i d h => ?_, fun i d h => ?_, fun i d h => ?_, fun i d h => ?_, by rw [backE_length]; exact g.go.len⟩, fun i d h => ?_⟩
  · obtain ⟨i, d, h, z⟩ := w
    obtain ⟨d0, h0⟩ := (back1 i _ h).1 d rfl
    exact g.go.own a ⟨i, d0, h0, z⟩
  · obtain ⟨d0, h0⟩ := (back1 i _ h).2.1 d rfl
    exact g.go.inn i d0 h0
  · exact g.go.bor i d ((back1 i _ h).2.2 d rfl)
  · obtain ⟨e1, d', h0⟩ := g.go.kin i d h
    rcases h0 with h0 | h0
    · rcases (kindB i _ h0).2.1 d' rfl with ⟨d2, e⟩ | ⟨d2, e⟩
      · exact ⟨rfl, d2, .inl (by rw [put i _ h0, e])⟩
      · exact ⟨rfl, d2, .inr (by rw [put i _ h0, e])⟩
    · exact ⟨rfl, d', .inr (by rw [put i _ h0, (kindB i _ h0).2.2 rfl])⟩
  · have h0 := (g.go.kbo i d h).2
    exact ⟨rfl, by rw [put i _ h0, (kindB i _ h0).2.2 rfl]⟩
  · have h0 := (g.go.kfx i d h).2
    exact ⟨rfl, by rw [put i _ h0, (kindB i _ h0).2.2 rfl]⟩
  · obtain ⟨d0, h0⟩ := (back1 i _ h).1 d rfl
    exact g.ow i d0 h0
theorem backE_nil (hp : zq6x os = []) (hl : os.length = outs.length) : ∀ (k : Nat) (ρ : En), zq6y os outs k ρ = ρ := by
  have one : ∀ (os : List Op) (outs : En) (i : Nat) (s : Sl), zq6x os = [] → zq6z os outs i s = s := by
    intro os
    induction os with
    | nil => intro outs i s _; cases outs <;> rfl
    | cons o os ih =>
      intro outs i s h
      cases outs with
      | nil => cases o <;> rfl
      | cons q outs =>
        cases o with
        | v d => exact ih outs i s h
        | fr d => exact ih outs i s h
        | pl j => cases h
  intro k ρ
  induction ρ generalizing k with
  | nil => rfl
  | cons s ρ ih => unfold zq6y; rw [one os outs k s hp, ih]
end
section
variable {X : Cx} {W : XW} {pos : Pos}
theorem de_call {fs : En → Res Op} {gs : En → Res (List Op)} {k : Nat} {f : Addr} {fd : FuncData} {ps : List Str} {x : Str} {p : Pos} {e : Expr} {es : List Expr} (F : FnOk X.prog X.w X.K X.mg X.base CX0 k f fd ps (spF X.K ps.length fs)) (hr : Room k X.A) (hg : Gl X x) (hm : X.mg x = some (.ref f)) (hk : PySem.W.keepIn X.K (.ref f) = true) (hb : Binds X.K fd ps [])
    (ha : DA X W (e :: es) gs) (hn : (e :: es).length = ps.length) (hdb : (x == ("__debug__" : Str)) = false := by decide) (he : starEach (e :: es) X.env = (false, eval e X.env) :: starEach es X.env := by rfl) (hpl : (backTo pos (starEach es X.env)).any (·.1) = false := by rfl) :
    DE X W (.Call (.Name x p) (e :: es) [] pos) (sCall fs gs) := by
  obtain ⟨ta, pa, sa⟩ := ha.ex
  refine ⟨_, pe_call F hr hg hm hk hb .nil pass0 pa hdb he hpl, fun σ F H ρ Q E h => sa σ F H ρ _ E (h.fst fun os ρ1 F1 H1 eq g1 h1 vs ods => ?_)⟩
  rw [List.append_nil]
  unfold callF at h1
  cases q : zq6w ρ1 os with
  | none => simp only [q] at h1; exact h1.elim
  | some ps' =>
    simp only [q] at h1
    split at h1
    · rename_i nd
      obtain ⟨Ea, ar⟩ := args_env E g1 ods nd q
      refine ⟨F1, ps', by rw [ods.all.len, ha.len _ _ _ eq, hn], Ea, ar, ?_⟩
      have bk : ∀ outs : En, OutsOk ps' outs → back os outs ρ1 = zq6y os outs 0 ρ1 := fun outs oo => by
        unfold back
        split
        · rename_i hp
          rw [backE_nil hp (by rw [oo.len, argsS_len q])]
        · rfl
      cases q2 : fs ps' with
      | bad => simp only [q2] at h1; exact h1.elim
      | exc c r => simp only [q2] at h1; exact h1.elim
      | ok r outs =>
        simp only [q2] at h1
        intro v F' H' ev Eo oo rr
        have gg := call_go E g1 ods nd q ev Eo oo
        cases r with
        | v d => exact h1 F' H' (by rw [bk outs oo]; exact gg) v rr
        | fr d =>
          obtain ⟨a, e1, n, ob⟩ := rr
          exact h1 F' H' (by rw [bk outs oo]; exact gg) v ⟨a, e1, none_of_dom g1.go.evo.dom n, ob⟩
        | pl i => exact h1.elim
    · exact h1.elim
/-! ### defs -/
def zq70 : En → En → En
  | .inn _ :: ps, q :: qs => q :: zq70 ps qs
  | p :: ps, _ :: qs => p :: zq70 ps qs
  | _, _ => []
def runF (n : Nat) (b : En → Out) : En → Res Op := fun args => match b (args ++ List.replicate (n - args.length) .no) with
  | .rt (.v d) ρ => .ok (.v d) (zq70 args ρ)
  | .rt (.fr d) ρ => .ok (.fr d) (zq70 args ρ)
  | .nx ρ => .ok (.v .none) (zq70 args ρ)
  | _ => .bad
theorem outsOf_len : ∀ {ps qs : En}, ps.length ≤ qs.length → (zq70 ps qs).length = ps.length
  | [], _, _ => by unfold zq70; rfl
  | _ :: _, [], h => by simp at h
  | p :: ps, q :: qs, h => by
    have := outsOf_len (ps := ps) (qs := qs) (by simpa using h)
    cases p <;> simp only [zq70, List.length_cons, this]
theorem outsOf_get : ∀ {ps qs : En} {i : Nat} {o : Sl}, (zq70 ps qs)[i]? = some o → ∃ p q, ps[i]? = some p ∧ qs[i]? = some q ∧ ((∃ d, p = .inn d ∧ o = q) ∨ ((∀ d, p ≠ .inn d) ∧ o = p))
  | [], _, i, o, h => by unfold zq70 at h; simp at h
  | p :: ps, [], i, o, h => by cases p <;> (unfold zq70 at h; simp at h)
  | p :: ps, q :: qs, 0, o, h => by
    refine ⟨p, q, rfl, rfl, ?_⟩
    cases p with
    | inn d => simp only [zq70, List.getElem?_cons_zero, Option.some.injEq] at h; exact .inl ⟨d, rfl, h.symm⟩
    | _ => simp only [zq70, List.getElem?_cons_zero, Option.some.injEq] at h; exact .inr ⟨(by intro d z; cases z), h.symm⟩
  | p :: ps, q :: qs, i + 1, o, h => by
    have : (zq70 ps qs)[i]? = some o := by
      cases p <;> (simp only [zq70, List.getElem?_cons_succ] at h; exact h)
    obtain ⟨p', q', h1, h2, h3⟩ := outsOf_get this
    exact ⟨p', q', by simpa using h1, by simpa using h2, h3⟩
theorem fn_sound {P : Program} {w : World} {K : PySem.W.Frag} {mg : Str → Option Value} {base : Heap} {x qual : Str} {st : Stmt} {f : Addr} {fd : FuncData} {N ps : List Str} {k : Nat} {b : En → Out} (F : Fun K x qual st f fd) (S : FnScope N ps (defScope st)) (hNp : ps.length ≤ N.length)
    (hbody : ∀ (cdv : Value) (A : Around) (outer : List Env) (s : Shared) (H : Hp) (E : XK), Room k (A.deeper (envOfC qual (defScope st) s.heap.objs.size f cdv)) → DSs (cxOf CX0 P w K mg base N qual (defScope st) f cdv A outer s H E).nox noX (defBody st) b) :
    FnOk P w K mg base CX0 (k + 1) f fd ps (spF K ps.length (runF N.length b)) := by
  refine F.ok S (fun vs H Q E h => ?_) (fun cdv A outer s H vs Q E hr h => ?_)
  · obtain ⟨_, _, hl, _⟩ := h; exact hl
  · obtain ⟨F, args, hl, Ea, ar, h⟩ := h
    obtain ⟨t, pt, qt⟩ := (hbody cdv A outer s H E hr).ex
    refine ⟨t, pt, ?_⟩
    have hla : vs.length = args.length := by rw [← Ea.len, List.length_map]
    -- the start
    have sget : ∀ (i : Nat) (t : Sl), (args ++ List.replicate (N.length - args.length) Sl.no)[i]? = some t → (args[i]? = some t ∧ (start N vs)[i]? = (vs.map some)[i]?) ∨ t = .no := fun i t h => by
      by_cases hi : i < args.length
      · rw [List.getElem?_append_left hi] at h
        refine .inl ⟨h, ?_⟩
        unfold start
        rw [List.getElem?_append_left (by rw [List.length_map]; omega)]
      · rw [List.getElem?_append_right (by omega)] at h
        have := List.mem_of_getElem? h
        exact .inr (List.eq_of_mem_replicate this)
    have E0 : EnvR K F H (start N vs) (args ++ List.replicate (N.length - args.length) Sl.no) := by
      refine ⟨?_, Ea.le, fun i t h => ?_, fun i j s t a ne h1 h2 m p z1 z2 => ?_⟩
      · unfold start
        rw [List.length_append, List.length_append, List.length_map, List.length_replicate, List.length_replicate, hla]
      · rcases sget i t h with ⟨h1, e⟩ | e
        · obtain ⟨o, h2, h3⟩ := Ea.sl i t h1
          exact ⟨o, e.trans h2, h3⟩
        · subst e
          have hlt := (List.getElem?_eq_some_iff.mp h).1
          have hs : i < (start N vs).length := by
            unfold start
            rw [List.length_append, List.length_map, List.length_replicate, hla]
            rw [List.length_append, List.length_replicate] at hlt
            exact hlt
          exact ⟨_, List.getElem?_eq_getElem hs, trivial⟩
      · rcases sget i s h1 with ⟨a1, e1⟩ | e1
        · rcases sget j t h2 with ⟨a2, e2⟩ | e2
          · rw [e1] at z1; rw [e2] at z2
            exact Ea.inj i j s t a ne a1 a2 m p z1 z2
          · subst e2; cases p
        · subst e1; cases m
    have own0 : ∀ a, own1 (start N vs) (args ++ List.replicate (N.length - args.length) Sl.no) a → False := fun a ⟨i, d, h1, h2⟩ => by
      rcases sget i _ h1 with ⟨a1, _⟩ | e
      · have := ar _ (List.mem_of_getElem? a1); cases this
      · cases e
    have ownEq : ∀ a, ownA (start N vs) (args ++ List.replicate (N.length - args.length) Sl.no) a → ownA (vs.map some) args a := fun a w => by
      rcases w with w | ⟨i, d, h1, h2⟩
      · exact (own0 a w).elim
      · rcases sget i _ h1 with ⟨a1, e⟩ | e
        · rw [e] at h2; exact .inr ⟨i, d, a1, h2⟩
        · cases e
    refine qt (start N vs) F H _ _ E0 ?_
    -- the end
    have fin : ∀ {σ' : St} {ρ' : En} {F' H' : Hp} {r : Op} {v : V}, Go K (start N vs) (args ++ List.replicate (N.length - args.length) Sl.no) F H σ' ρ' F' H' → OdR K H F' H' [] v r → (∀ v F' H', Evo (ownA (vs.map some) args) F H F' H' → EnvR K F' H' (vs.map some) (zq70 args ρ') → OutsOk args (zq70 args ρ') → OdR K H F' H' [] v r → Q v H') → Q v H' := by
      intro σ' ρ' F' H' r v g rr hq
      have hlr : args.length ≤ ρ'.length := by rw [g.len, List.length_append]; omega
      have slot0 : ∀ (i : Nat) (p : Sl), args[i]? = some p → (args ++ List.replicate (N.length - args.length) Sl.no)[i]? = some p ∧ (start N vs)[i]? = (vs.map some)[i]? := fun i p h => by
        have hi := (List.getElem?_eq_some_iff.mp h).1
        refine ⟨by rw [List.getElem?_append_left hi]; exact h, ?_⟩
        unfold start
        rw [List.getElem?_append_left (by rw [List.length_map]; omega)]
      -- a slot at the end, by its argument
      have look : ∀ (i : Nat) (o : Sl), (zq70 args ρ')[i]? = some o → ∃ p, args[i]? = some p ∧ OutOk p o ∧ ((o.plc = true ∧ ρ'[i]? = some o ∧ σ'[i]? = (vs.map some)[i]?) ∨ o.plc = false) ∧ ∃ w, (vs.map some)[i]? = some w ∧ SltR K F' H' w o := fun i o h => by
        obtain ⟨p, q, h1, h2, h3⟩ := outsOf_get h
        obtain ⟨s1, s2⟩ := slot0 i p h1
        obtain ⟨w0, x1, x2⟩ := Ea.sl i p h1
        refine ⟨p, h1, ?_⟩
        rcases h3 with ⟨d, rfl, rfl⟩ | ⟨np, rfl⟩
        · obtain ⟨e1, d', e2⟩ := g.kin i d s1
          obtain ⟨w1, y1, y2⟩ := g.env.sl i o h2
          rw [e1, s2] at y1
          rcases e2 with e2 | e2
          · rw [h2] at e2; cases e2
            exact ⟨.inl ⟨d', rfl⟩, .inl ⟨rfl, h2, e1.trans s2⟩, w1, y1, y2⟩
          · rw [h2] at e2; cases e2
            exact ⟨.inr ⟨d', rfl⟩, .inr rfl, w1, y1, y2⟩
        · have ao := ar _ (List.mem_of_getElem? h1)
          cases o with
          | no => cases ao
          | own d => cases ao
          | fix d => cases ao
          | inn d => exact absurd rfl (np d)
          | val d =>
            obtain ⟨v, e, r⟩ := x2
            exact ⟨rfl, .inr rfl, w0, x1, v, e, r.mono g.evo.le⟩
          | bor d =>
            obtain ⟨e1, e2⟩ := g.kbo i d s1
            obtain ⟨w1, y1, y2⟩ := g.env.sl i _ e2
            rw [e1, s2] at y1
            exact ⟨rfl, .inl ⟨rfl, e2, e1.trans s2⟩, w1, y1, y2⟩
      refine hq v F' H' (g.evo.weak ownEq) ⟨by rw [outsOf_len hlr, List.length_map, hla], g.env.le, fun i o h => ?_, fun i j s t a ne h1 h2 m p z1 z2 => ?_⟩ ⟨outsOf_len hlr, fun i p o h1 h2 => ?_⟩ rr
      · obtain ⟨p, _, _, _, w, h3, h4⟩ := look i o h
        exact ⟨w, h3, h4⟩
      · obtain ⟨p1, _, _, c1, _⟩ := look i s h1
        obtain ⟨p2, _, _, c2, _⟩ := look j t h2
        rcases c1 with ⟨_, q1, e1⟩ | c1
        · rcases c2 with ⟨_, q2, e2⟩ | c2
          · exact g.env.inj i j s t a ne q1 q2 m p (e1.trans z1) (e2.trans z2)
          · rw [p] at c2; cases c2
        · rw [Sl.plc_of_mut m] at c1; cases c1
      · obtain ⟨p', h3, h4, _⟩ := look i o h2
        rw [h1] at h3; cases h3
        exact h4
    unfold runF at h
    cases q : b (args ++ List.replicate (N.length - args.length) Sl.no) with
    | bad => simp only [q] at h
    | bk ρ' => simp only [q] at h
    | ct ρ' => simp only [q] at h
    | rd c ρ' => simp only [q] at h
    | exc c ρ' => simp only [q] at h
    | nx ρ' => simp only [q] at h; exact fun σ' F' H' g => fin (r := .v .none) g Rp.non h
    | rt r ρ' =>
      cases r with
      | v d => simp only [q] at h; exact fun v σ' F' H' g z => fin (r := .v d) g z h
      | fr d =>
        simp only [q] at h
        rintro v σ' F' H' g ⟨a, e, ob, z⟩
        refine fin (r := .fr d) g ⟨a, e, ?_, ob⟩ h
        rcases z with z | z
        · exact z
        · exact (own0 a z).elim
      | pl i => simp only [q] at h
end
end Py
end L2

namespace L2
namespace Py
open PySem PySem.Spec PyProof.Rows
section
variable {X : Cx} {W : XW} {pos : Pos} {a b c e : Expr} {f f1 f2 f3 : En → Res Op}
/-! ### arithmetic by names -/
abbrev pSub := pI0 fun i j => i - j
def pMul := pI (fun i j => decide ((-(2 ^ 64) < i ∧ i < 2 ^ 64) ∨ (-(2 ^ 64) < j ∧ j < 2 ^ 64))) fun i j => i * j
def pDiv := pI (fun _ j => decide (0 < j ∧ j < 1073741824)) fun i j => i / j
def pMod := pI (fun _ j => decide (0 < j)) fun i j => i % j
def pPow := pI (fun i j => decide (0 ≤ j ∧ j ≤ 1000000 ∧ i.natAbs < 2 ^ 64)) fun i j => i ^ j.toNat
def pShl := pI (fun i j => decide (0 ≤ j ∧ j ≤ 1000000 ∧ i.natAbs < 2 ^ 64)) fun i j => i * 2 ^ j.toNat
def pShr := pI (fun _ j => decide (0 ≤ j)) fun i j => i / 2 ^ j.toNat
abbrev pBand := pI0 fun i j => Builtin.bitAnd i j
theorem p2_mul {K : PySem.W.Frag} : P2 K (rI CMul fun i j => .int (i * j)) pMul := p2_I fun _ _ h => by simp only [decide_eq_true_eq] at h; exact h
theorem p2_div {K : PySem.W.Frag} : P2 K (rI CDiv fun i j => .int (i / j)) pDiv := p2_I fun _ _ h => by simp only [decide_eq_true_eq] at h; exact h
theorem p2_mod {K : PySem.W.Frag} : P2 K (rI (fun _ j => 0 < j) fun i j => .int (i % j)) pMod := p2_I fun _ _ h => by simp only [decide_eq_true_eq] at h; exact h
theorem p2_pow {K : PySem.W.Frag} : P2 K (rI CPow fun i j => .int (i ^ j.toNat)) pPow := p2_I fun _ _ h => by simp only [decide_eq_true_eq] at h; exact h
theorem p2_shl {K : PySem.W.Frag} : P2 K (rI CPow fun i j => .int (i * 2 ^ j.toNat)) pShl := p2_I fun _ _ h => by simp only [decide_eq_true_eq] at h; exact h
theorem p2_shr {K : PySem.W.Frag} : P2 K (rI (fun _ j => 0 ≤ j) fun i j => .int (i / 2 ^ j.toNat)) pShr := p2_I fun _ _ h => by simp only [decide_eq_true_eq] at h; exact h
theorem de_add (ha : DE X W a f1) (hb : DE X W b f2) : DE X W (.BinOp a .Add b pos) (sP2 pAdd f1 f2) := de_op op_add4 p2_add ha hb
theorem de_sub (ha : DE X W a f1) (hb : DE X W b f2) : DE X W (.BinOp a .Sub b pos) (sP2 pSub f1 f2) := de_op op_sub p2_I0 ha hb
theorem de_mul (ha : DE X W a f1) (hb : DE X W b f2) : DE X W (.BinOp a .Mult b pos) (sP2 pMul f1 f2) := de_op op_mul p2_mul ha hb
theorem de_div (ha : DE X W a f1) (hb : DE X W b f2) : DE X W (.BinOp a .FloorDiv b pos) (sP2 pDiv f1 f2) := de_op op_fdiv p2_div ha hb
theorem de_mod (ha : DE X W a f1) (hb : DE X W b f2) : DE X W (.BinOp a .Mod b pos) (sP2 pMod f1 f2) := de_op op_mod p2_mod ha hb
theorem de_pow (ha : DE X W a f1) (hb : DE X W b f2) : DE X W (.BinOp a .Pow b pos) (sP2 pPow f1 f2) := de_op op_pow p2_pow ha hb
theorem de_shl (ha : DE X W a f1) (hb : DE X W b f2) : DE X W (.BinOp a .LShift b pos) (sP2 pShl f1 f2) := de_op op_shl p2_shl ha hb
theorem de_shr (ha : DE X W a f1) (hb : DE X W b f2) : DE X W (.BinOp a .RShift b pos) (sP2 pShr f1 f2) := de_op op_shr p2_shr ha hb
theorem de_band (ha : DE X W a f1) (hb : DE X W b f2) : DE X W (.BinOp a .BitAnd b pos) (sP2 pBand f1 f2) := de_op op_and p2_I0 ha hb
def pNeg : PyData → Option Op
  | .int i => some (.v (.int (-i)))
  | _ => none
theorem p1_neg {K : PySem.W.Frag} : P1 K (rU fun i => .int (-i)) pNeg := by
  intro F H x d o Q le rx ho q
  unfold pNeg at ho
  split at ho
  · cases ho
    rw [rd1_int rx]
    exact ⟨_, rfl, gives_v le (.int _) q⟩
  · cases ho
theorem de_neg (ha : DE X W a f) : DE X W (.UnaryOp .USub a pos) (sP1 pNeg f) := de_un un_neg p1_neg ha
/-! ### comparisons by names, as values and as tests -/
variable {k : Nat}
theorem de_eq (hr : Room k X.A) (ha : DE X W a f1) (hb : DE X W b f2) : DE X W (.Compare a [.Eq] [b] pos) (sP2 pEq f1 f2) := de_cmp (op_eqP hr.units) p2_eq ha hb (nomark _)
theorem de_ne (hr : Room k X.A) (ha : DE X W a f1) (hb : DE X W b f2) : DE X W (.Compare a [.NotEq] [b] pos) (sP2 pNe f1 f2) := de_cmp (op_neP hr.units) p2_ne ha hb (nomark _)
theorem de_lt (hr : Room k X.A) (ha : DE X W a f1) (hb : DE X W b f2) : DE X W (.Compare a [.Lt] [b] pos) (sP2 pLt f1 f2) := de_cmp (op_lt.or (op_ltD hr.units)) p2_cmp ha hb (nomark _)
theorem de_le (hr : Room k X.A) (ha : DE X W a f1) (hb : DE X W b f2) : DE X W (.Compare a [.LtE] [b] pos) (sP2 pLe f1 f2) := de_cmp (op_le.or (op_leD hr.units)) p2_cmp ha hb (nomark _)
theorem de_gt (hr : Room k X.A) (ha : DE X W a f1) (hb : DE X W b f2) : DE X W (.Compare a [.Gt] [b] pos) (sP2 pGt f1 f2) := de_cmp (op_gt.or (op_gtD hr.units)) p2_cmp ha hb (nomark _)
theorem de_ge (hr : Room k X.A) (ha : DE X W a f1) (hb : DE X W b f2) : DE X W (.Compare a [.GtE] [b] pos) (sP2 pGe f1 f2) := de_cmp (op_ge.or (op_geD hr.units)) p2_cmp ha hb (nomark _)
theorem de_in (hr : Room k X.A) (ha : DE X W a f1) (hb : DE X W b f2) (hm : behindInMarks .In b = false := by rfl) : DE X W (.Compare a [.In] [b] pos) (sP2 (pIn id) f1 f2) := de_cmp (op_in_str.or (op_inD hr.units)) p2_in ha hb hm
theorem de_notin (hr : Room k X.A) (ha : DE X W a f1) (hb : DE X W b f2) (hm : behindInMarks .NotIn b = false := by rfl) : DE X W (.Compare a [.NotIn] [b] pos) (sP2 (pIn not) f1 f2) := de_cmp (op_notin_str.or (op_notInD hr.units)) p2_in ha hb hm
theorem de_is (ha : DE X W a f1) (hb : DE X W b f2) : DE X W (.Compare a [.Is] [b] pos) (sP2 (pIs id) f1 f2) := de_cmp op_isN p2_is ha hb (nomark _)
theorem de_isnot (ha : DE X W a f1) (hb : DE X W b f2) : DE X W (.Compare a [.IsNot] [b] pos) (sP2 (pIs not) f1 f2) := de_cmp op_notN p2_is ha hb (nomark _)
theorem dt_eq (hr : Room k X.A) (ha : DE X W a f1) (hb : DE X W b f2) : DT X W (.Compare a [.Eq] [b] pos) (sTest (sP2 pEq f1 f2)) := dt_cmp (op_eqP hr.units) p2_eq ha hb (nomark _)
theorem dt_ne (hr : Room k X.A) (ha : DE X W a f1) (hb : DE X W b f2) : DT X W (.Compare a [.NotEq] [b] pos) (sTest (sP2 pNe f1 f2)) := dt_cmp (op_neP hr.units) p2_ne ha hb (nomark _)
theorem dt_lt (hr : Room k X.A) (ha : DE X W a f1) (hb : DE X W b f2) : DT X W (.Compare a [.Lt] [b] pos) (sTest (sP2 pLt f1 f2)) := dt_cmp (op_lt.or (op_ltD hr.units)) p2_cmp ha hb (nomark _)
theorem dt_le (hr : Room k X.A) (ha : DE X W a f1) (hb : DE X W b f2) : DT X W (.Compare a [.LtE] [b] pos) (sTest (sP2 pLe f1 f2)) := dt_cmp (op_le.or (op_leD hr.units)) p2_cmp ha hb (nomark _)
theorem dt_gt (hr : Room k X.A) (ha : DE X W a f1) (hb : DE X W b f2) : DT X W (.Compare a [.Gt] [b] pos) (sTest (sP2 pGt f1 f2)) := dt_cmp (op_gt.or (op_gtD hr.units)) p2_cmp ha hb (nomark _)
theorem dt_ge (hr : Room k X.A) (ha : DE X W a f1) (hb : DE X W b f2) : DT X W (.Compare a [.GtE] [b] pos) (sTest (sP2 pGe f1 f2)) := dt_cmp (op_ge.or (op_geD hr.units)) p2_cmp ha hb (nomark _)
theorem dt_in (hr : Room k X.A) (ha : DE X W a f1) (hb : DE X W b f2) (hm : behindInMarks .In b = false := by rfl) : DT X W (.Compare a [.In] [b] pos) (sTest (sP2 (pIn id) f1 f2)) := dt_cmp (op_in_str.or (op_inD hr.units)) p2_in ha hb hm
theorem dt_notin (hr : Room k X.A) (ha : DE X W a f1) (hb : DE X W b f2) (hm : behindInMarks .NotIn b = false := by rfl) : DT X W (.Compare a [.NotIn] [b] pos) (sTest (sP2 (pIn not) f1 f2)) := dt_cmp (op_notin_str.or (op_notInD hr.units)) p2_in ha hb hm
theorem dt_is (ha : DE X W a f1) (hb : DE X W b f2) : DT X W (.Compare a [.Is] [b] pos) (sTest (sP2 (pIs id) f1 f2)) := dt_cmp op_isN p2_is ha hb (nomark _)
theorem dt_isnot (ha : DE X W a f1) (hb : DE X W b f2) : DT X W (.Compare a [.IsNot] [b] pos) (sTest (sP2 (pIs not) f1 f2)) := dt_cmp op_notN p2_is ha hb (nomark _)
theorem de_sub1 (ha : DE X W a f1) (hb : DE X W b f2) (hm : PlainIx b := by exact fun _ _ => rfl) : DE X W (.Subscript a b pos) (sP2 pIx f1 f2) := de_ix ix_seq p2_ix ha hb hm
/-! ### x[::-1] -/
def zq6i : PyData → Option Op
  | .list ds => some (.fr (.list ds.reverse))
  | _ => none
theorem de_revL {p1 p2 p3 : Pos} {n : Nat} (ha : DE X W a f) : DE X W (.Subscript a (.Slice none none (some (.UnaryOp .USub (.Constant (.int 1) n p1) p2)) p3) pos) (sP1 zq6i f) :=
  de_1 (r := fun x H1 Q => ∃ a xs, x = .ref a ∧ SqL X.K H1 a xs ∧ ∀ p, H1 p = none → Q (.ref p) (upd H1 p (.lst xs.reverse))) (by
    intro F H x d o Q le rx ho q
    unfold zq6i at ho
    split at ho
    · cases ho
      obtain ⟨a, xs, rfl, h1, r1⟩ := rx
      exact ⟨a, xs, rfl, h1, fun p hp => gives_lst le r1.reverse hp q⟩
    · cases ho) (fun _ pa => pe_revL pa) ha
/-! ### int(x) -/
def zq6h : List PyData → Option Op
  | [.int i] => some (.v (.int i))
  | [.bool b] => some (.v (.int (if b then 1 else 0)))
  | _ => none
theorem pn_intOf {K : PySem.W.Frag} : PN K (fun xs H Q => (∃ i, xs = [.int i] ∧ Q (.int i) H) ∨ ∃ k, xs = [.bl k] ∧ Q (.int (if k then 1 else 0)) H) zq6h := by
  intro F H xs ds o Q le rs ho q
  unfold zq6h at ho
  split at ho
  · cases ho
    obtain ⟨v, rfl, r⟩ := rds1 rs
    rw [rd1_int r]
    exact .inl ⟨_, rfl, gives_v le (.int _) q⟩
  · cases ho
    obtain ⟨v, rfl, r⟩ := rds1 rs
    rw [rd1_bool r]
    exact .inr ⟨_, rfl, gives_v le (.int _) q⟩
  · cases ho
/-! ### max, min: two ints, or the things of a list -/
open PySem.W in
def alikeB (xs : List PyData) : Bool := xs.all (fun x => xs.all fun y => alike x y) && xs.all (fun x => match x with | .none => false | _ => true) && PyData.plainAll xs && decide (PyData.depthAll xs ≤ 60)
open PySem.W in
theorem alikeB_iff {xs : List PyData} (h : alikeB xs = true) : AlikeAll xs ∧ PyData.plainAll xs = true ∧ PyData.depthAll xs ≤ 60 := by
  unfold alikeB at h
  simp only [Bool.and_eq_true, List.all_eq_true, decide_eq_true_eq] at h
  refine ⟨⟨h.1.1.1, fun x hx z => ?_⟩, h.1.2, h.2⟩
  have := h.1.1.2 x hx
  subst z
  cases this
open PySem.W in
def rMaxD (K : PySem.W.Frag) (g : PyData → List PyData → PyData) : List V → Hp → VK → Prop := fun vs H Q => ∃ (a : Addr) (xs : List V) (d : PyData) (ds : List PyData), vs = [.ref a] ∧ SqL K H a xs ∧ RpL K H xs (d :: ds) ∧ alikeB (d :: ds) = true ∧ ∀ (i : Nat) v, xs[i]? = some v → (d :: ds)[i]? = some (g d ds) → Q v H
theorem readsAll_get {h : Heap} : ∀ {vs : List Value} {xs : List PyData} {as : List Addr} {i : Nat} {d : PyData}, ReadsAll h vs xs as → xs[i]? = some d → ∃ v bs, vs[i]? = some v ∧ Reads h v d bs
  | _, _, _, _, _, .nil, e => by simp at e
  | _, _, _, 0, _, .cons h _, e => by simp at e; subst e; exact ⟨_, _, rfl, h⟩
  | _, _, _, i + 1, d, .cons _ t, e => by
    obtain ⟨v, bs, h1, h2⟩ := readsAll_get (i := i) (d := d) t (by simpa using e)
    exact ⟨v, bs, by simpa using h1, h2⟩
theorem plainAll_get : ∀ {xs : List PyData} {i : Nat} {d : PyData}, PyData.plainAll xs = true → xs[i]? = some d → d.plain = true
  | [], _, _, _, e => by simp at e
  | x :: xs, 0, d, h, e => by
    simp at e; subst e
    have h' : x.plain = true ∧ PyData.plainAll xs = true := by simpa [PyData.plainAll] using h
    exact h'.1
  | x :: xs, i + 1, d, h, e => by
    have h' : x.plain = true ∧ PyData.plainAll xs = true := by simpa [PyData.plainAll] using h
    exact plainAll_get h'.2 (by simpa using e)
open PySem.W in
theorem cr_maxD (hc : X.calm = true) (hu : X.A.units + 64 < cLine) : CallR X (.builtin "max") (rMaxD X.K maxD) := by
  intro pins s σ H vs us Q I r h
  obtain ⟨a, xs, d, ds, rfl, hs, rx, ok, q⟩ := h
  obtain ⟨k1, k2, k3⟩ := alikeB_iff ok
  obtain ⟨its, rv, hl, hz⟩ := I.list hs
  obtain ⟨as, hr⟩ := RpL.reads I _ _ its rx rv
  rw [Vals.ref1 r]
  refine max_list_data (I.ok.hd hc) hl.isList (by simpa using hr) k1 (by omega) fun i v h' tk bs hi hv hk => ?_
  have hi' : its[i]? = some v := by simpa using hi
  have hil : i < its.length := (List.getElem?_eq_some_iff.mp hi').1
  have hix : i < xs.length := by rw [rv.length]; exact hil
  obtain ⟨u, hu1, hu2⟩ := rv.get (List.getElem?_eq_getElem hix)
  rw [hi'] at hu1; cases hu1
  have hdl : i < (d :: ds).length := by rw [← rx.length]; exact hix
  obtain ⟨w, bs2, hw1, hw2⟩ := readsAll_get hr (List.getElem?_eq_getElem hdl)
  rw [hi'] at hw1; cases hw1
  have e := SeqAt.plain_unique _ _ _ _ _ (plainAll_get k2 (List.getElem?_eq_getElem hdl)) (Reads.keeps hk hw2) hv
  exact ⟨xs[i], H, I.kept hk, hu2, q i _ (List.getElem?_eq_getElem hix) (by rw [List.getElem?_eq_getElem hdl, e])⟩
open PySem.W in
theorem cr_minD (hc : X.calm = true) (hu : X.A.units + 64 < cLine) : CallR X (.builtin "min") (rMaxD X.K minD) := by
  intro pins s σ H vs us Q I r h
  obtain ⟨a, xs, d, ds, rfl, hs, rx, ok, q⟩ := h
  obtain ⟨k1, k2, k3⟩ := alikeB_iff ok
  obtain ⟨its, rv, hl, hz⟩ := I.list hs
  obtain ⟨as, hr⟩ := RpL.reads I _ _ its rx rv
  rw [Vals.ref1 r]
  refine min_list_data (I.ok.hd hc) hl.isList (by simpa using hr) k1 (by omega) fun i v h' tk bs hi hv hk => ?_
  have hi' : its[i]? = some v := by simpa using hi
  have hil : i < its.length := (List.getElem?_eq_some_iff.mp hi').1
  have hix : i < xs.length := by rw [rv.length]; exact hil
  obtain ⟨u, hu1, hu2⟩ := rv.get (List.getElem?_eq_getElem hix)
  rw [hi'] at hu1; cases hu1
  have hdl : i < (d :: ds).length := by rw [← rx.length]; exact hix
  obtain ⟨w, bs2, hw1, hw2⟩ := readsAll_get hr (List.getElem?_eq_getElem hdl)
  rw [hi'] at hw1; cases hw1
  have e := SeqAt.plain_unique _ _ _ _ _ (plainAll_get k2 (List.getElem?_eq_getElem hdl)) (Reads.keeps hk hw2) hv
  exact ⟨xs[i], H, I.kept hk, hu2, q i _ (List.getElem?_eq_getElem hix) (by rw [List.getElem?_eq_getElem hdl, e])⟩
theorem CallR.or {f : Value} {r r' : List V → Hp → VK → Prop} (h : CallR X f r) (h' : CallR X f r') : CallR X f (fun xs H Q => r xs H Q ∨ r' xs H Q) := by
  intro pins s σ H vs us Q I rv q
  rcases q with q | q
  · exact h pins s σ H vs us Q I rv q
  · exact h' pins s σ H vs us Q I rv q
def pBest (g2 : Int → Int → Int) (g : PyData → List PyData → PyData) : List PyData → Option Op
  | [.int i, .int j] => some (.v (.int (g2 i j)))
  | [.list (d :: ds)] => if alikeB (d :: ds) = true then some (.v (g d ds)) else none
  | _ => none
open PySem.W in
abbrev pMax := pBest (fun i j => if j > i then j else i) maxD
open PySem.W in
abbrev pMin := pBest (fun i j => if j < i then j else i) minD
theorem pn_best {K : PySem.W.Frag} {g2 : Int → Int → Int} {g : PyData → List PyData → PyData} (hg : ∀ d ds, g d ds ∈ d :: ds) : PN K (fun xs H Q => (∃ i j, xs = [.int i, .int j] ∧ Q (.int (g2 i j)) H) ∨ rMaxD K g xs H Q) (pBest g2 g) := by
  intro F H xs ds o Q le rs ho q
  unfold pBest at ho
  split at ho
  · cases ho
    obtain ⟨v, w, rfl, r1, r2⟩ := rds2 rs
    rw [rd1_int r1, rd1_int r2]
    exact .inl ⟨_, _, rfl, gives_v le (.int _) q⟩
  · split at ho
    · rename_i d ds hb
      cases ho
      obtain ⟨v, rfl, a, ys, rfl, h1, r1⟩ := rds1 rs
      refine .inr ⟨a, ys, d, ds, rfl, h1, r1.mono le, hb, fun i v hv hd => ?_⟩
      obtain ⟨w, hw, rw'⟩ := r1.get hd
      rw [hv] at hw; cases hw
      exact gives_v le rw' q
    · cases ho
  · cases ho
open PySem.W in
theorem maxD_mem (d : PyData) (ds : List PyData) : maxD d ds ∈ d :: ds := by
  unfold maxD
  induction ds generalizing d with
  | nil => simp
  | cons y ys ih =>
    rw [List.foldl_cons]
    have := ih (if dataLt d y = true then y else d)
    rcases List.mem_cons.mp this with e | m
    · rw [e]; split <;> simp
    · exact List.mem_cons_of_mem _ (List.mem_cons_of_mem _ m)
open PySem.W in
theorem minD_mem (d : PyData) (ds : List PyData) : minD d ds ∈ d :: ds := by
  unfold minD
  induction ds generalizing d with
  | nil => simp
  | cons y ys ih =>
    rw [List.foldl_cons]
    have := ih (if dataLt y d = true then y else d)
    rcases List.mem_cons.mp this with e | m
    · rw [e]; split <;> simp
    · exact List.mem_cons_of_mem _ (List.mem_cons_of_mem _ m)
/-! ### built-ins by names -/
variable {es : List Expr} {gs : En → Res (List Op)} {p : Pos}
theorem de_blt {x : Str} {id : String} {r : List V → Hp → VK → Prop} {pp : List PyData → Option Op} (hc : CallR X (.builtin id) r) (hp : PN X.K r pp) (hg : Gl X x) (hm : X.mg x = none) (hv : bootBuiltins x = some (.builtin id)) (ha : DA X W (e :: es) gs) (hn : x ≠ "__name__" := by decide) (hdb : (x == ("__debug__" : Str)) = false := by decide)
    (he : starEach (e :: es) X.env = (false, eval e X.env) :: starEach es X.env := by rfl) (hpl : (backTo pos (starEach es X.env)).any (·.1) = false := by rfl) : DE X W (.Call (.Name x p) (e :: es) [] pos) (sPN pp gs) :=
  de_N hp (fun _ pa => pe_callB hc hg hm hv pa hn hdb he hpl) ha
theorem de_ty {x : Str} {T : String} {r : List V → Hp → VK → Prop} {pp : List PyData → Option Op} (hc : CallR X (.type T) r) (hp : PN X.K r pp) (hg : Gl X x) (hm : X.mg x = none) (hv : bootBuiltins x = some (.type T)) (ha : DA X W (e :: es) gs) (hn : x ≠ "__name__" := by decide) (hdb : (x == ("__debug__" : Str)) = false := by decide)
    (he : starEach (e :: es) X.env = (false, eval e X.env) :: starEach es X.env := by rfl) (hpl : (backTo pos (starEach es X.env)).any (·.1) = false := by rfl) : DE X W (.Call (.Name x p) (e :: es) [] pos) (sPN pp gs) :=
  de_N hp (fun _ pa => pe_callTy hc hg hm hv pa hn hdb he hpl) ha
theorem boot_len' : bootBuiltins "len" = some (.builtin "len") := PySem.boot_len
theorem boot_abs' : bootBuiltins "abs" = some (.builtin "abs") := by decide +kernel
theorem boot_max' : bootBuiltins "max" = some (.builtin "max") := by decide +kernel
theorem boot_min' : bootBuiltins "min" = some (.builtin "min") := by decide +kernel
theorem boot_all' : bootBuiltins "all" = some (.builtin "all") := by decide +kernel
theorem boot_any' : bootBuiltins "any" = some (.builtin "any") := by decide +kernel
theorem boot_sum' : bootBuiltins "sum" = some (.builtin "sum") := by decide +kernel
theorem boot_tuple' : bootBuiltins "tuple" = some (.type "tuple") := by decide +kernel
theorem boot_list' : bootBuiltins "list" = some (.type "list") := by decide +kernel
theorem boot_int' : bootBuiltins "int" = some (.type "int") := by decide +kernel
theorem boot_bool' : bootBuiltins "bool" = some (.type "bool") := by decide +kernel
theorem boot_str' : bootBuiltins "str" = some (.type "str") := by decide +kernel
theorem boot_dict' : bootBuiltins "dict" = some (.type "dict") := by decide +kernel
/-- a module's constant -/
theorem de_glob {x : Str} {v : V} {u : Value} {d : PyData} (hg : Gl X x) (hm : X.mg x = some u) (r : RelV v u) (rp : ∀ K F, Rp K F v d) (hd : (x == ("__debug__" : Str)) = false := by decide) : DE X W (.Name x pos) (sC d) := de_c (pe_glob hg hm r hd) rp
/-- {} as a datum -/
def sDic0 : En → Res Op := fun ρ => .ok (.fr (.dict [])) ρ
theorem de_dic0 : DE X W (.Dict [] [] pos) sDic0 := by
  refine ⟨_, pe_dnewK, fun σ F H ρ Q E h p hp => ?_⟩
  have g := GoE.lay E hp (.dK [])
  exact h _ _ g _ ⟨p, rfl, hp, .inl ⟨[], upd_same, E.le.free hp, .nil⟩⟩
/-! ### a < b < c -/
theorem Post.at' {α : Type} {K : PySem.W.Frag} {W : XW} {σ : St} {ρ ρ' : En} {F H F1 H1 : Hp} {r : Res α} {k : α → En → Hp → Hp → Prop} (h : Post K W σ ρ F H r k) (g : GoE K σ ρ F H ρ' F1 H1) : Post K W σ ρ' F1 H1 r k := by
  cases r with
  | ok a ρ2 => exact fun F' H' g' => h F' H' (g.trans g')
  | exc c ρ2 => exact fun F' H' g' => h F' H' (g.trans g')
  | bad => exact h
def sChain (p1 p2 : PyData → PyData → Option Op) (f1 f2 f3 : En → Res Op) : En → Res Op := bnd f1 fun o1 => bnd f2 fun o2 => bnd (rdd o1) fun d1 => bnd (rdd o2) fun d2 => match p1 d1 d2 with
  | some (.v (.bool true)) => bnd f3 fun o3 => bnd (rdd o2) fun d2 => bnd (rdd o3) fun d3 => opt (p2 d2 d3)
  | some (.v (.bool false)) => fun ρ => .ok (.v (.bool false)) ρ
  | _ => fun _ => .bad
theorem chain_core {r1 r2 : R2} {p1 p2 : PyData → PyData → Option Op} (h1 : P2 X.K r1 p1) (h2 : P2 X.K r2 p2) {ta tb tc : TE}
    (sa : ∀ (σ : St) (F H : Hp) (ρ : En) (Q : VK), EnvR X.K F H σ ρ → Post X.K W σ ρ F H (f1 ρ) (fun o _ F' H' => ∀ v, OdR X.K H F' H' σ v o → Q v H') → ta σ H Q)
    (sb : ∀ (σ : St) (F H : Hp) (ρ : En) (Q : VK), EnvR X.K F H σ ρ → Post X.K W σ ρ F H (f2 ρ) (fun o _ F' H' => ∀ v, OdR X.K H F' H' σ v o → Q v H') → tb σ H Q)
    (sc : ∀ (σ : St) (F H : Hp) (ρ : En) (Q : VK), EnvR X.K F H σ ρ → Post X.K W σ ρ F H (f3 ρ) (fun o _ F' H' => ∀ v, OdR X.K H F' H' σ v o → Q v H') → tc σ H Q)
    (σ : St) (F H : Hp) (ρ : En) (Q : VK) (E : EnvR X.K F H σ ρ) (h : Post X.K W σ ρ F H (sChain p1 p2 f1 f2 f3 ρ) (fun o _ F' H' => ∀ v, OdR X.K H F' H' σ v o → Q v H')) : tChain r1 r2 ta tb tc σ H Q := by
  refine sa σ F H ρ _ E (h.split.imp fun o1 ρ1 F1 H1 _ g1 k1 v1 e1 => ?_)
  refine sb σ F1 H1 ρ1 _ g1.env (k1.split.imp fun o2 ρ2 F2 H2 _ g2 k2 v2 e2 => ?_)
  obtain ⟨d1, x1, k3⟩ := post_rdd g2.env k2
  obtain ⟨d2, x2, k4⟩ := post_rdd g2.env k3
  have y1 := (e1.go E g1 g2).rd1 g2.env x1
  have y2 := (e2.early g1.go.evo.dom).rd1 g2.env x2
  cases q : p1 d1 d2 with
  | none => simp only [q] at k4; exact k4.elim
  | some o =>
    refine h1 F2 H2 v1 v2 d1 d2 o _ g2.env.le y1 y2 q fun v F' H' ev le rr => ?_
    have g3 : GoE X.K σ ρ2 F2 H2 ρ2 F' H' := GoE.news g2.env ev le
    simp only [q] at k4
    cases o with
    | fr d => exact k4.elim
    | pl i => exact k4.elim
    | v d =>
      cases d with
      | bool b =>
        cases rr
        refine ⟨b, rfl, ?_⟩
        cases b with
        | false => exact iteF ((k4.at' g3) F' H' (.refl g3.env) _ (.bl _))
        | true =>
          refine iteT (sc σ F' H' ρ2 _ g3.env ((k4.at' g3).split.imp fun o3 ρ3 F3 H3 _ g4 k5 v3 e3 => ?_))
          obtain ⟨d2', x3, k6⟩ := post_rdd g4.env k5
          obtain ⟨d3, x4, k7⟩ := post_rdd g4.env k6
          obtain ⟨o', x5, gv⟩ := post_opt g4.env (g1.trans (g2.trans (g3.trans g4))).go.evo.dom k7
          have dm := (g1.trans (g2.trans g3)).go.evo.dom
          exact h2 F3 H3 v2 v3 d2' d3 o' Q g4.env.le (((e2.early g1.go.evo.dom).go E (g1.trans g2) (g3.trans g4)).rd1 g4.env x3) ((e3.early dm).rd1 g4.env x4) x5 gv
      | _ => exact k4.elim
theorem de_chain {op op' : CmpOp} {r1 r2 : R2} {p1 p2 : PyData → PyData → Option Op} (o1 : OpR X (compareOp op) r1) (o2 : OpR X (compareOp op') r2) (h1 : P2 X.K r1 p1) (h2 : P2 X.K r2 p2) (ha : DE X W a f1) (hb : DE X W b f2) (hc : DE X W c f3)
    (hm : lastMarks [op, op'] [b, c] = false := by with_unfolding_all rfl) : DE X W (.Compare a [op, op'] [b, c] pos) (sChain p1 p2 f1 f2 f3) := by
  obtain ⟨ta, pa, sa⟩ := ha.ex
  obtain ⟨tb, pb, sb⟩ := hb.ex
  obtain ⟨tc, pc, sc⟩ := hc.ex
  exact ⟨_, pe_chain o1 o2 pa pb pc hm, chain_core h1 h2 sa sb sc⟩
theorem dt_chain {op op' : CmpOp} {r1 r2 : R2} {p1 p2 : PyData → PyData → Option Op} (o1 : OpR X (compareOp op) r1) (o2 : OpR X (compareOp op') r2) (h1 : P2 X.K r1 p1) (h2 : P2 X.K r2 p2) (ha : DE X W a f1) (hb : DE X W b f2) (hc : DE X W c f3)
    (hm : lastMarks [op, op'] [b, c] = false := by with_unfolding_all rfl) : DT X W (.Compare a [op, op'] [b, c] pos) (sTest (sChain p1 p2 f1 f2 f3)) := by
  obtain ⟨ta, pa, sa⟩ := ha.ex
  obtain ⟨tb, pb, sb⟩ := hb.ex
  obtain ⟨tc, pc, sc⟩ := hc.ex
  refine ⟨_, pt_chain o1 o2 pa pb pc hm, fun σ F H ρ Q E h => chain_core h1 h2 sa sb sc σ F H ρ _ E (h.split.imp fun o ρ1 F1 H1 _ g1 k1 v r => ?_)⟩
  obtain ⟨b, e1, k2⟩ := post_bl g1.env r k1
  exact ⟨b, e1, k2 F1 H1 (.refl g1.env)⟩
theorem de_globI {x : Str} {i : Int} (hg : Gl X x) (hm : ∃ t, X.mg x = some (.int i t)) (hd : (x == ("__debug__" : Str)) = false := by decide) : DE X W (.Name x pos) (sC (.int i)) := by
  obtain ⟨t, hm⟩ := hm
  exact de_glob hg hm (v := .int i) ⟨t, rfl⟩ (fun _ _ => .int i) hd
theorem de_globS {x i : Str} (hg : Gl X x) (hm : ∃ t, X.mg x = some (.str i t)) (hd : (x == ("__debug__" : Str)) = false := by decide) : DE X W (.Name x pos) (sC (.str i)) := by
  obtain ⟨t, hm⟩ := hm
  exact de_glob hg hm (v := .str i) ⟨t, rfl⟩ (fun _ _ => .str i) hd
end
/-! ### the law's own end -/
def script (ns : List Int) : PyData := .list (ns.map PyData.int)
theorem rpl_ints {K : PySem.W.Frag} {F : Hp} : ∀ ns : List Int, RpL K F (ns.map V.int) (ns.map PyData.int)
  | [] => .nil
  | n :: ns => .cons (.int n) (rpl_ints ns)
theorem law_end {f : En → Res Op} (h : ∀ ns : List Int, ns.length ≤ 63 → ∃ outs, f [.val (script ns)] = .ok (.v (.bool true)) outs) {K : PySem.W.Frag} {H : Hp} {a : Addr} {ns : List Int} (hl : ns.length ≤ 63) (hS : SqL K H a (ns.map V.int)) : spF K 1 f [.ref a] H (fun v _ => v = .bl true) fun _ _ _ => False := by
  obtain ⟨outs, e⟩ := h ns hl
  refine ⟨H, [.val (script ns)], rfl, ⟨rfl, Same.refl _, fun i s h => ?_, fun i j s t a ne h1 h2 m p => ?_⟩, fun s m => ?_, ?_⟩
  · cases i with
    | zero => simp at h; subst h; exact ⟨_, rfl, _, rfl, .lst hS (rpl_ints ns)⟩
    | succ i => simp at h
  · cases i with
    | zero => simp at h1; subst h1; cases m
    | succ i => simp at h1
  · rw [List.mem_singleton.mp m]; rfl
  · rw [e]
    intro v F' H' _ _ _ r
    cases r
    rfl
end Py
end L2

namespace L2
namespace Py
open PySem PySem.Spec PyProof.Rows
set_option maxHeartbeats 4000000 in
theorem meets_enum1 {v : Value} {o : Obj} {H : Heap → Prop} (B : Begins v o H) :
    Meets (Builtin.«enumerate.__new__» ⟨[.type "enumerate", v], []⟩) (fun _ R s => H s.heap ∧
      R (.ok (.ret (.ref (s.heap.push o).objs.size))) { s with heap := (s.heap.push o).push { cls := .type "enumerate", data := .fields #[.none, .bool false, .ref s.heap.objs.size, rawInt 0, .none, .none] } }) :=
  .of_wp fun prog w A R s h => by
    obtain ⟨hp, g, d, tk, os⟩ := s; obtain ⟨h1, h⟩ := h
    have hsub := sub_enumerate
    have q1 : ∀ {A' : Around} {E : Value → Shared → Prop} {Q : Value → Shared → Prop}, Q (.ref hp.objs.size) ⟨hp.push o, g, d, tk, os⟩ → wpAny (model prog w) A' (pyIter v) Q E ⟨hp, g, d, tk, os⟩ :=
      fun q => B.iter prog w _ _ ⟨hp, g, d, tk, os⟩ _ h1 q
    wp_walk using q1
    refine wpAny_stack_any fun st => wpAny_pure ?_
    split
    · rename_i c _ _ _ _ _
      cases (c == Value.type "enumerate")
      · wp_walk using q1
        exact ⟨_, rfl, h⟩
      · wp_walk using q1
        exact ⟨_, rfl, h⟩
    · wp_walk using q1
      exact ⟨_, rfl, h⟩
section
variable {prog : Program} {w : World} {A : Around} {E : Value → Shared → Prop} {s : Shared}
theorem enum_begins1 {v : Value} {o : Obj} {H : Heap → Prop} {Q : Value → Shared → Prop} (B : Begins v o H) (h1 : H s.heap)
    (h : ∀ h', IsEnum h' (s.heap.objs.size + 1) s.heap.objs.size 0 .none → h'.get? s.heap.objs.size = some o → h'.objs.size = s.heap.objs.size + 2 →
      (∀ b o, s.heap.get? b = some o → h'.get? b = some o) → Q (.ref (s.heap.objs.size + 1)) { s with heap := h' }) :
    wpAny (model prog w) A (call (.type "enumerate") [v]) Q E s := by
  refine callType_new F.called_enumerate (by decide) (F.typeCall_enumerate_1 _) (F.newCall_enumerate_1 _) (fun obj => F.args_object_init_2 obj _) F.entry_enumerate_new
    (meets_enum1 B) ⟨h1, ?_⟩
  have hz : (s.heap.push o).objs.size = s.heap.objs.size + 1 := Heap.size_push ..
  show _ ∧ _
  rw [hz]
  have he : IsEnum ((s.heap.push o).push { cls := .type "enumerate", data := .fields #[.none, .bool false, .ref s.heap.objs.size, rawInt 0, .none, .none] }) (s.heap.objs.size + 1) s.heap.objs.size 0 .none := by
    have := Heap.get?_push_size (s.heap.push o) (o := { cls := .type "enumerate", data := .fields #[.none, .bool false, .ref s.heap.objs.size, rawInt 0, .none, .none] }) rfl
    rw [hz] at this; exact this
  refine ⟨⟨_, he, rfl⟩, h _ he (Heap.get?_push_of_some _ (Heap.get?_push_size _ B.free)) (by rw [Heap.size_push, hz]) fun b o x => Heap.get?_push_of_some _ (Heap.get?_push_of_some _ x)⟩
end
/-- the tuple at a, each item in a new pair, counted from k -/
def ItE (K : PySem.W.Frag) (Sq : PySem.W.Frag → Hp → Addr → List V → Prop) (a : Addr) (k : Int) : It :=
  ⟨fun i H => ∃ (xs : List V) (x : V), Sq K H a xs ∧ xs[i]? = some x, fun i H v H' => ∃ T x, v = .ref T ∧ H T = none ∧ (∃ ob : Obj, H' = upd H T (.frz ob (.tup [.int (k + (i : Nat)), x])) ∧ ob.dict = none) ∧ ∀ xs, Sq K H a xs → xs[i]? = some x, fun i H => ∃ xs : List V, Sq K H a xs ∧ xs.length = i⟩
theorem itok_enum {K : PySem.W.Frag} {F H : Hp} {a : Addr} {xs : List V} {ds : List PyData} {k : Int} {A : Addr → Prop} {Sq : PySem.W.Frag → Hp → Addr → List V → Prop} (h : ∀ F2 H2, Same F F2 → Same F2 H2 → (∀ a o, A a → H a = some o → H2 a = some o) → Sq K H2 a xs) (r : RpL K F xs ds) : ItOk K A F H (ItE K Sq a k) (ds.zipIdx.map fun p => .tuple [.int (k + (p.2 : Nat)), p.1]) := ⟨fun F2 H2 s1 s2 kp => by
  have hq := h F2 H2 s1 s2 kp
  have hl : (ds.zipIdx.map fun p => PyData.tuple [.int (k + (p.2 : Nat)), p.1]).length = ds.length := by rw [List.length_map, List.length_zipIdx]
  refine ⟨⟨xs, hq, by rw [hl, r.length]⟩, fun i d hd => ?_⟩
  have hi : i < ds.length := by rw [← hl]; exact (List.getElem?_eq_some_iff.mp hd).1
  obtain ⟨v, hv, rv⟩ := r.get (List.getElem?_eq_getElem hi)
  have hd' : d = .tuple [.int (k + (i : Nat)), ds[i]] := by
    rw [List.getElem?_map, List.getElem?_zipIdx, List.getElem?_eq_getElem hi] at hd
    simp at hd
    exact hd.symm
  subst hd'
  refine ⟨⟨xs, v, hq, hv⟩, fun x H3 ⟨T, y, e1, nT, ⟨ob, e2, hd⟩, hy⟩ => ?_⟩
  subst e1 e2
  have ey := hy xs hq
  rw [hv] at ey; cases ey
  have hF : F2 T = none := s2.free nT
  have sF : Same F2 (upd F2 T (.frz ob (.tup [.int (k + (i : Nat)), v]))) := same_upd' (H := H2) hF
  refine ⟨upd F2 T (.frz ob (.tup [.int (k + (i : Nat)), v])), ⟨sF, fun b o q n => ?_, fun b o q n => ?_, fun b o q => ?_⟩, fun b o q => ?_, .tup (sqP_frz upd_same hd) (.cons (.int _) (.cons (rv.mono (s1.trans sF)) .nil))⟩
  · rw [upd_ne (ne_of_none q nT)]; exact q
  · rw [upd_ne (ne_of_none q nT)]
  · rw [upd_ne (ne_of_none q nT)]; exact ⟨o, q⟩
  · by_cases e : b = T
    · subst e; rw [upd_same] at q; rw [upd_same]; exact q
    · rw [upd_ne e] at q; rw [upd_ne e]; exact s2 _ _ q⟩
theorem enum_ne {h : Heap} {e it a : Addr} {c : Int} {old : Value} {n : String} (he : IsEnum h e it c old) (ha : ∃ o, h.get? a = some o ∧ o.cls = .type n) (hn : n ≠ "enumerate") : e ≠ a := by
  rintro rfl
  obtain ⟨o, e1, e2⟩ := ha
  have he : h.get? e = some _ := he
  rw [he] at e1
  cases e1
  have e2 : Value.type "enumerate" = Value.type n := e2
  injection e2 with e3
  exact hn e3.symm
theorem turn_enumT {P : Program} {w : World} {K : PySem.W.Frag} {elts : List Expr} {kk : Nat} {tpos : Pos} (a e it : Addr) (k : Int) :
    Turn P w K (.Tuple elts kk tpos) (ItE K SqT a k) [e, it] e (fun i h => (∃ old, IsEnum h e it (k + ((i : Nat) : Int)) old) ∧ h.IsTupleIter it a i ∧ e ≠ it) where
  mem := by simp
  obj := fun i h st b hb => by
    obtain ⟨⟨old, he⟩, ⟨o, ho, hc, hd⟩, _⟩ := st
    have e' : b = e ∨ b = it := by simpa using hb
    rcases e' with z | z
    · rw [z]; exact ⟨_, he, fun v q => nomatch q⟩
    · rw [z]; exact ⟨o, ho, fun v q => by rw [hd] at q; cases q⟩
  keep := fun i h h' st k => let ⟨⟨old, he⟩, hi, hne⟩ := st; ⟨⟨old, k e (by simp) _ he⟩, hi.at fun o q => k it (by simp) o q, hne⟩
  item := by
    intro X hP hw hK hc i pins s σ H E I hf st hg
    subst hP hw hK
    obtain ⟨⟨old, he⟩, hit, hne⟩ := st
    obtain ⟨xs, x, hq, hx⟩ := hg
    obtain ⟨its, rv, p, hz⟩ := I.tuple hq
    obtain ⟨u, hu, ru⟩ := rv.get hx
    have hel : e < s.heap.objs.size := Heap.lt_size he
    have hil : it < s.heap.objs.size := by obtain ⟨_, q, _⟩ := hit; exact Heap.lt_size q
    obtain ⟨po, pe, pc, pn, pd⟩ := id p
    have hea : e ≠ a := enum_ne he ⟨po, pe, pc⟩ (by decide)
    have hia : a ≠ it := by
      rintro rfl
      obtain ⟨o, q1, q2, _⟩ := hit
      rw [pe] at q1; cases q1
      rw [pc] at q2; injection q2 with z; exact absurd z (by decide)
    have hlt : i < its.toArray.size := by rw [List.size_toArray]; exact (List.getElem?_eq_some_iff.mp hu).1
    refine wpAny_pyNext_enum_itemC (Draws.tuple (A := X.A.in1) (I.ok.hd hc) it a hia its.toArray) he ⟨hit, p⟩ hlt hne (by simp [hne, hea]) fun x' h' tk hP ho hst' hT hsz hk => ?_
    have ex' : x' = u := by
      have hP : its.toArray[i]? = some x' := hP
      rw [← Array.getElem?_toList] at hP
      have hP : its[i]? = some x' := hP
      rw [hu] at hP; exact (Option.some.inj hP).symm
    subst ex'
    refine ⟨_, rfl, wpAny_letOwnedTupleGo_enum (s := { s with heap := h', toks := tk + 1 }) ho fun h'' he' sb => ?_⟩
    have hT2 : h''.get? s.heap.objs.size = some { cls := .type "tuple", data := .seq #[.int (k + (i : Nat)) tk, x'] } := (sb.2 _ (Nat.ne_of_gt hel)).trans hT
    have new : ObjOk X.prog X.w (upd H s.heap.objs.size (.frz { cls := .type "tuple", data := .seq #[.int (k + (i : Nat)) tk, x'] } (.tup [.int (k + (i : Nat)), x]))) h'' s.heap.objs.size (.frz { cls := .type "tuple", data := .seq #[.int (k + (i : Nat)) tk, x'] } (.tup [.int (k + (i : Nat)), x])) :=
      ⟨hT2, by show 2 ≤ sizeLine; decide, [.int (k + (i : Nat)) tk, x'], .cons ⟨_, rfl⟩ (.cons ru .nil), ⟨_, hT2, rfl, _, rfl⟩⟩
    have I1 : Inv X pins σ (upd H s.heap.objs.size (.frz { cls := .type "tuple", data := .seq #[.int (k + (i : Nat)) tk, x'] } (.tup [.int (k + (i : Nat)), x]))) { s with heap := h'', toks := tk + 1 } :=
      I.turnedNew (ch := [e, it]) (fun b ob hb q => (sb.2 b (fun z => hb (by simp [z]))).trans (hk b ob (fun z => hb (by simp [z])) (fun z => hb (by simp [z])) q)) hf (Nat.le_refl _) new
    refine ⟨.ref s.heap.objs.size, _, I1, rfl, ⟨_, x, rfl, I.hok.fresh (Nat.le_refl _), ⟨_, rfl, rfl⟩, fun ys hy => by rw [I.tuple_inj hy hq]; exact hx⟩, ⟨⟨x', ?_⟩, hst'.1.at fun o q => (sb.2 it (Ne.symm hne)).trans q, hne⟩, fun b hb => ?_⟩
    · have e1 : k + ((i + 1 : Nat) : Int) = k + (i : Int) + 1 := by omega
      rw [e1]; exact he'
    · have hb' : b < s.heap.objs.size := by
        have e' : b = e ∨ b = it := by simpa using hb
        rcases e' with z | z
        · rw [z]; exact hel
        · rw [z]; exact hil
      rw [upd_ne (Nat.ne_of_lt hb')]
      exact (hf b hb).1
  done := by
    intro X hP hw hK hc i pins s σ H E I hf st hg
    subst hP hw hK
    obtain ⟨⟨old, he⟩, hit, hne⟩ := st
    obtain ⟨xs, hq, hx⟩ := hg
    obtain ⟨its, rv, p, hz⟩ := I.tuple hq
    obtain ⟨f0, f1, f2, f3, f4, f5⟩ := hf it (by simp)
    have hl := rv.length
    obtain ⟨po, pe, pc, pn, pd⟩ := id p
    have hia : a ≠ it := by
      rintro rfl
      obtain ⟨o, q1, q2, _⟩ := hit
      rw [pe] at q1; cases q1
      rw [pc] at q2; injection q2 with z; exact absurd z (by decide)
    have D := Draws.tuple (prog := X.prog) (w := X.w) (A := X.A.in1) (I.ok.hd hc) it a hia its.toArray
    have hi : i = its.toArray.size := by rw [List.size_toArray, ← hl]; exact hx.symm
    subst hi
    exact wpAny_pyNext_enum_endD D he ⟨hit, p⟩ fun h' eb => ⟨rfl, I.turned (t' := s.toks) (fun b o hb q => eb b o hb q) f0 f1 f3 f4 f5⟩
  self := fun A i s Q E st h => let ⟨⟨_, he⟩, _⟩ := st; wpAny_pyIter_enum he h
theorem turn_enumL {P : Program} {w : World} {K : PySem.W.Frag} {elts : List Expr} {kk : Nat} {tpos : Pos} (a e it : Addr) (k : Int) :
    Turn P w K (.Tuple elts kk tpos) (ItE K SqL a k) [e, it] e (fun i h => (∃ old, IsEnum h e it (k + ((i : Nat) : Int)) old) ∧ h.IsListIter it a i ∧ e ≠ it) where
  mem := by simp
  obj := fun i h st b hb => by
    obtain ⟨⟨old, he⟩, ⟨o, ho, hc, hd⟩, _⟩ := st
    have e' : b = e ∨ b = it := by simpa using hb
    rcases e' with z | z
    · rw [z]; exact ⟨_, he, fun v q => nomatch q⟩
    · rw [z]; exact ⟨o, ho, fun v q => by rw [hd] at q; cases q⟩
  keep := fun i h h' st k => let ⟨⟨old, he⟩, hi, hne⟩ := st; ⟨⟨old, k e (by simp) _ he⟩, hi.at fun o q => k it (by simp) o q, hne⟩
  item := by
    intro X hP hw hK hc i pins s σ H E I hf st hg
    subst hP hw hK
    obtain ⟨⟨old, he⟩, hit, hne⟩ := st
    obtain ⟨xs, x, hq, hx⟩ := hg
    obtain ⟨its, rv, p0, hz⟩ := I.list hq
    have p := p0.isList
    obtain ⟨u, hu, ru⟩ := rv.get hx
    have hel : e < s.heap.objs.size := Heap.lt_size he
    have hil : it < s.heap.objs.size := by obtain ⟨_, q, _⟩ := hit; exact Heap.lt_size q
    obtain ⟨po, pe, pc, pn, pd⟩ := id p
    have hea : e ≠ a := enum_ne he ⟨po, pe, pc⟩ (by decide)
    have hia : a ≠ it := by
      rintro rfl
      obtain ⟨o, q1, q2, _⟩ := hit
      rw [pe] at q1; cases q1
      rw [pc] at q2; injection q2 with z; exact absurd z (by decide)
    have hlt : i < its.toArray.size := by rw [List.size_toArray]; exact (List.getElem?_eq_some_iff.mp hu).1
    refine wpAny_pyNext_enum_itemC (Draws.list (A := X.A.in1) (I.ok.hd hc) it a hia its.toArray) he ⟨hit, p⟩ hlt hne (by simp [hne, hea]) fun x' h' tk hP ho hst' hT hsz hk => ?_
    have ex' : x' = u := by
      have hP : its.toArray[i]? = some x' := hP
      rw [← Array.getElem?_toList] at hP
      have hP : its[i]? = some x' := hP
      rw [hu] at hP; exact (Option.some.inj hP).symm
    subst ex'
    refine ⟨_, rfl, wpAny_letOwnedTupleGo_enum (s := { s with heap := h', toks := tk + 1 }) ho fun h'' he' sb => ?_⟩
    have hT2 : h''.get? s.heap.objs.size = some { cls := .type "tuple", data := .seq #[.int (k + (i : Nat)) tk, x'] } := (sb.2 _ (Nat.ne_of_gt hel)).trans hT
    have new : ObjOk X.prog X.w (upd H s.heap.objs.size (.frz { cls := .type "tuple", data := .seq #[.int (k + (i : Nat)) tk, x'] } (.tup [.int (k + (i : Nat)), x]))) h'' s.heap.objs.size (.frz { cls := .type "tuple", data := .seq #[.int (k + (i : Nat)) tk, x'] } (.tup [.int (k + (i : Nat)), x])) :=
      ⟨hT2, by show 2 ≤ sizeLine; decide, [.int (k + (i : Nat)) tk, x'], .cons ⟨_, rfl⟩ (.cons ru .nil), ⟨_, hT2, rfl, _, rfl⟩⟩
    have I1 : Inv X pins σ (upd H s.heap.objs.size (.frz { cls := .type "tuple", data := .seq #[.int (k + (i : Nat)) tk, x'] } (.tup [.int (k + (i : Nat)), x]))) { s with heap := h'', toks := tk + 1 } :=
      I.turnedNew (ch := [e, it]) (fun b ob hb q => (sb.2 b (fun z => hb (by simp [z]))).trans (hk b ob (fun z => hb (by simp [z])) (fun z => hb (by simp [z])) q)) hf (Nat.le_refl _) new
    refine ⟨.ref s.heap.objs.size, _, I1, rfl, ⟨_, x, rfl, I.hok.fresh (Nat.le_refl _), ⟨_, rfl, rfl⟩, fun ys hy => by rw [I.list_inj hy hq]; exact hx⟩, ⟨⟨x', ?_⟩, hst'.1.at fun o q => (sb.2 it (Ne.symm hne)).trans q, hne⟩, fun b hb => ?_⟩
    · have e1 : k + ((i + 1 : Nat) : Int) = k + (i : Int) + 1 := by omega
      rw [e1]; exact he'
    · have hb' : b < s.heap.objs.size := by
        have e' : b = e ∨ b = it := by simpa using hb
        rcases e' with z | z
        · rw [z]; exact hel
        · rw [z]; exact hil
      rw [upd_ne (Nat.ne_of_lt hb')]
      exact (hf b hb).1
  done := by
    intro X hP hw hK hc i pins s σ H E I hf st hg
    subst hP hw hK
    obtain ⟨⟨old, he⟩, hit, hne⟩ := st
    obtain ⟨xs, hq, hx⟩ := hg
    obtain ⟨its, rv, p0, hz⟩ := I.list hq
    have p := p0.isList
    obtain ⟨f0, f1, f2, f3, f4, f5⟩ := hf it (by simp)
    have hl := rv.length
    obtain ⟨po, pe, pc, pn, pd⟩ := id p
    have hia : a ≠ it := by
      rintro rfl
      obtain ⟨o, q1, q2, _⟩ := hit
      rw [pe] at q1; cases q1
      rw [pc] at q2; injection q2 with z; exact absurd z (by decide)
    have D := Draws.list (prog := X.prog) (w := X.w) (A := X.A.in1) (I.ok.hd hc) it a hia its.toArray
    have hi : i = its.toArray.size := by rw [List.size_toArray, ← hl]; exact hx.symm
    subst hi
    exact wpAny_pyNext_enum_endD D he ⟨hit, p⟩ fun h' eb => ⟨rfl, I.turned (t' := s.toks) (fun b o hb q => eb b o hb q) f0 f1 f3 f4 f5⟩
  self := fun A i s Q E st h => let ⟨⟨_, he⟩, _⟩ := st; wpAny_pyIter_enum he h
/-! ### enumerate(x) -/
def iEnumA (K : PySem.W.Frag) (k : Int) (ta : TA) : TI := fun σ H R => ta σ H fun vs H1 => ∃ a xs, vs = [.ref a] ∧ ((SqL K H1 a xs ∧ R (ItE K SqL a k) H1) ∨ (SqT K H1 a xs ∧ R (ItE K SqT a k) H1))
theorem pi_enumA {X : Cx} {e : Expr} {ta : TA} {p pos tpos : Pos} {elts : List Expr} {kk : Nat} (hg : Gl X "enumerate") (hm : X.mg "enumerate" = none) (ha : PA X [e] ta) (hs : starEach [e] X.env = [(false, eval e X.env)] := by rfl) :
    PI X (.Tuple elts kk tpos) (.Call (.Name "enumerate" p) [e] [] pos) (iEnumA X.K 0 ta) := by
  refine ⟨fun pins s σ H R I h => ?_⟩
  refine Call_ (ld_blt I hg hm boot_enumerate (PyProof.Rows.callWith_type1 (thn (ha.run pos pins s σ H _ I h) fun us s1 ⟨vs, H1, I1, r1, q1⟩ => ?_) hs rfl))
  obtain ⟨a, xs, ex, hq⟩ := q1
  subst ex
  cases r1 with
  | cons r rr =>
    cases rr
    cases r
    have fpk : ∀ b, b ∈ [s1.heap.objs.size + 1, s1.heap.objs.size] → FpOk X pins H1 b := fun b hb => by
      have e' : b = s1.heap.objs.size + 1 ∨ b = s1.heap.objs.size := by simpa using hb
      have hle : s1.heap.objs.size ≤ b := by
        rcases e' with z | z
        · rw [z]; exact Nat.le_add_right _ _
        · rw [z]; exact Nat.le_refl _
      exact I1.fpOk hle (I1.hok.fresh hle)
    rcases hq with ⟨hq, q⟩ | ⟨hq, q⟩
    · obtain ⟨its, rv, p', hz⟩ := I1.list hq
      refine enum_begins1 (begins_list a its.toArray) p'.isList fun h' he hit hsz hk => wpAny_pyIter_enum he ?_
      have I2 : Inv X pins σ H1 { s1 with heap := h' } := I1.kept (t' := s1.toks) hk
      exact ⟨s1.heap.objs.size + 1, [s1.heap.objs.size + 1, s1.heap.objs.size], _, _, H1, rfl, I2, turn_enumL a (s1.heap.objs.size + 1) s1.heap.objs.size 0, ⟨⟨.none, he⟩, ⟨_, hit, rfl, rfl⟩, Nat.succ_ne_self _⟩, fpk, q⟩
    · obtain ⟨its, rv, p', hz⟩ := I1.tuple hq
      refine enum_begins1 (begins_tuple a its.toArray) (show s1.heap.IsTuple a its.toArray from p') fun h' he hit hsz hk => wpAny_pyIter_enum he ?_
      have I2 : Inv X pins σ H1 { s1 with heap := h' } := I1.kept (t' := s1.toks) hk
      exact ⟨s1.heap.objs.size + 1, [s1.heap.objs.size + 1, s1.heap.objs.size], _, _, H1, rfl, I2, turn_enumT a (s1.heap.objs.size + 1) s1.heap.objs.size 0, ⟨⟨.none, he⟩, ⟨_, hit, rfl, rfl⟩, Nat.succ_ne_self _⟩, fpk, q⟩
/-- the pairs of enumerate, from k -/
def enumD (k : Int) (ds : List PyData) : List PyData := ds.zipIdx.map fun p => .tuple [.int (k + (p.2 : Nat)), p.1]
def sEnum (f : En → Res Op) : En → Res (List PyData × List Op) := bnd (sItr f) fun p ρ => .ok (enumD 0 p.1, p.2) ρ
theorem di_enum {X : Cx} {W : XW} {e : Expr} {f : En → Res Op} {p pos tpos : Pos} {elts : List Expr} {kk : Nat} (hg : Gl X "enumerate") (hm : X.mg "enumerate" = none) (ha : DE X W e f) (hs : starEach [e] X.env = [(false, eval e X.env)] := by rfl) (hs2 : starEach [e] X.env = (false, eval e X.env) :: starEach [] X.env := by rfl) :
    DI X W (.Tuple elts kk tpos) (.Call (.Name "enumerate" p) [e] [] pos) (sEnum f) := by
  obtain ⟨ta, pa, sa⟩ := ha.ex
  refine ⟨_, pi_enumA hg hm (pa_cons pa pa_nil hs2) hs, fun σ F H ρ R E h => ?_⟩
  unfold sEnum sItr bnd at h
  refine sa σ F H ρ _ E ?_
  cases e : f ρ with
  | bad => simp only [e] at h; exact h.elim
  | exc c ρ1 => simp only [e] at h; exact h
  | ok o ρ1 =>
    simp only [e] at h
    intro F1 H1 g1 v r
    cases o with
    | v d =>
      cases d with
      | list ds =>
        cases r with
        | lst h1 r1 => exact ⟨_, _, rfl, .inl ⟨same_sqL g1.env.le h1, h F1 H1 g1 _ (fun _ => False) [] trivial (fun _ m => nomatch m) (fun _ z => z.elim) (itok_enum (fun F2 H2 s1 s2 _ => same_sqL (s1.trans s2) h1) r1)⟩⟩
      | tuple ds =>
        cases r with
        | tup h1 r1 => exact ⟨_, _, rfl, .inr ⟨same_sqT g1.env.le h1.sq, h F1 H1 g1 _ (fun _ => False) [] trivial (fun _ m => nomatch m) (fun _ z => z.elim) (itok_enum (fun F2 H2 s1 s2 _ => same_sqT (s1.trans s2) h1.sq) r1)⟩⟩
      | _ => exact h.elim
    | fr d =>
      cases d with
      | list ds =>
        obtain ⟨a, rfl, n, xs, hH, hF, rx⟩ := r
        refine ⟨a, xs, rfl, .inl ⟨.inl (.inl hH), h F1 H1 g1 _ (fun b => b = a) [.ref a] ⟨⟨a, rfl, n, xs, hH, hF, rx⟩, trivial⟩ (fun o m i z => ?_) (fun b z => ⟨0, _, by rw [z]; rfl, rfl, fun d z => by cases z⟩) (itok_enum (fun F2 H2 s1 s2 kp => .inl (.inl (kp a _ rfl hH))) rx)⟩⟩
        rw [List.mem_singleton.mp m] at z; cases z
      | _ => exact h.elim
    | pl i =>
      have r : σ[i]? = some (some v) := r
      unfold itO at h
      cases q : ρ1[i]? with
      | none => simp only [q] at h; exact h.elim
      | some s =>
        simp only [q] at h
        obtain ⟨w, e1, e2⟩ := g1.env.sl i s q
        rw [r] at e1; cases e1
        have fin : ∀ (a : Addr) (ds : List PyData), v = .ref a → s.plc = true → Ob X.K F1 H1 a (.list ds) → Post X.K W σ ρ F H (Res.ok (enumD 0 ds, [Op.pl i]) ρ1) (fun p ρ' F' H' => ∀ J A vs, OdsA X.K H F' H' σ vs p.2 → (∀ o ∈ p.2, ∀ i, o = .pl i → ∃ s, ρ'[i]? = some s ∧ s.plc = true) → (∀ a, A a → ∃ (k : Nat) (o : Op), vs[k]? = some (V.ref a) ∧ p.2[k]? = some o ∧ ∀ d, o ≠ .v d) → ItOk X.K A F' H' J p.1 → R J H') →
            ∃ a xs, [v] = [.ref a] ∧ ((SqL X.K H1 a xs ∧ R (ItE X.K SqL a 0) H1) ∨ (SqT X.K H1 a xs ∧ R (ItE X.K SqT a 0) H1)) := by
          rintro a ds rfl hp ⟨xs, hH, hF, rx⟩ h
          refine ⟨a, xs, rfl, .inl ⟨.inl (.inl hH), h F1 H1 g1 _ (fun b => b = a) [.ref a] ⟨r, trivial⟩ (fun o m j z => ?_) (fun b z => ⟨0, _, by rw [z]; rfl, rfl, fun d z => by cases z⟩) (itok_enum (fun F2 H2 s1 s2 kp => .inl (.inl (kp a _ rfl hH))) rx)⟩⟩
          rw [List.mem_singleton.mp m] at z; cases z
          exact ⟨s, q, hp⟩
        cases s with
        | no => exact h.elim
        | val d => exact h.elim
        | fix d => exact h.elim
        | own d =>
          cases d with
          | list ds => obtain ⟨a, e3, ob⟩ := e2; cases e3; exact fin a ds rfl rfl ob h
          | _ => exact h.elim
        | inn d =>
          cases d with
          | list ds => obtain ⟨a, e3, ob⟩ := e2; cases e3; exact fin a ds rfl rfl ob h
          | _ => exact h.elim
        | bor d =>
          cases d with
          | list ds => obtain ⟨a, e3, ob⟩ := e2; cases e3; exact fin a ds rfl rfl ob h
          | _ => exact h.elim
end Py
end L2

namespace L2
namespace Py
open PySem PySem.Spec PyProof.Rows
/-! ### x is True -/
def pIsB (n : Bool → Bool) : PyData → PyData → Option Op
  | .bool a, .bool b => some (.v (.bool (n (decide (a = b)))))
  | _, _ => none
theorem p2_isB {K : PySem.W.Frag} {n : Bool → Bool} : P2 K (fun x y H Q => ∃ a b, x = .bl a ∧ y = .bl b ∧ Q (.bl (n (decide (a = b)))) H) (pIsB n) := by
  intro F H x y d e o Q le rx ry ho q
  unfold pIsB at ho
  split at ho
  · cases ho
    cases rx
    cases ry
    exact ⟨_, _, rfl, rfl, gives_v le (.bl _) q⟩
  · cases ho
theorem fzs_noexc : ∀ {os : List Op} {ρ ρ' : En} {c : Str}, fzs os ρ ≠ .exc c ρ'
  | [], ρ, ρ', c, h => by cases h
  | o :: os, ρ, ρ', c, h => by
    unfold fzs bnd at h
    cases q : fz o ρ with
    | bad => simp only [q] at h; cases h
    | exc c r => exact absurd q fz_noexc
    | ok d ρ1 =>
      simp only [q] at h
      cases q2 : fzs os ρ1 with
      | bad => simp only [q2] at h; cases h
      | exc c r => exact absurd q2 fzs_noexc
      | ok ds ρ2 => simp only [q2] at h; cases h
section
variable {X : Cx} {W : XW} {pos : Pos} {a b : Expr} {f1 f2 : En → Res Op}
theorem de_isB (ha : DE X W a f1) (hb : DE X W b f2) : DE X W (.Compare a [.Is] [b] pos) (sP2 (pIsB id) f1 f2) := de_cmp op_is_bl p2_isB ha hb (nomark _)
theorem dt_isB (ha : DE X W a f1) (hb : DE X W b f2) : DT X W (.Compare a [.Is] [b] pos) (sTest (sP2 (pIsB id) f1 f2)) := dt_cmp op_is_bl p2_isB ha hb (nomark _)
theorem dt_isnotB (ha : DE X W a f1) (hb : DE X W b f2) : DT X W (.Compare a [.IsNot] [b] pos) (sTest (sP2 (pIsB not) f1 f2)) := dt_cmp op_isnot_bl p2_isB ha hb (nomark _)
/-! ### a, b = a list -/
def gL (n : Nat) (g : List PyData → En → Res Unit) : PyData → En → Res Unit := fun d => match d with
  | .list ds => if ds.length = n then g ds else fun _ => .bad
  | _ => fun _ => .bad
theorem dg_lst {es : List Expr} {is : List Nat} {k n : Nat} {gs : List PyData → En → Res Unit} (hc : X.calm = true) (h : DGs X is es gs) (hn : (assignEach es X.env).length = n := by rfl) (hst : (assignEach es X.env).findIdx? (·.1) = none := by rfl) : DG X is (.Tuple es k pos) (gL n gs) := by
  obtain ⟨t, p, q⟩ := h.ex
  refine ⟨_, pg_unl hc p hn hst, fun σ F H ρ v d Q E r ⟨ρ', e, h⟩ => ?_⟩
  cases r with
  | @lst a xs ds s r =>
    have e : (if ds.length = n then gs ds else fun _ => .bad) ρ = .ok () ρ' := e
    by_cases hl : ds.length = n
    · rw [if_pos hl] at e
      exact ⟨a, xs, rfl, same_sqL E.le s, r.length.trans hl, q σ F H ρ xs ds Q E r ⟨ρ', e, h⟩⟩
    · rw [if_neg hl] at e; cases e
  | non => cases e
  | bl _ => cases e
  | int _ => cases e
  | str _ => cases e
  | tup _ _ => cases e
  | dic _ _ => cases e
  | dicN _ _ _ => cases e
theorem gL_noexc {n : Nat} {gs : List PyData → En → Res Unit} (h2 : ∀ d ρ c ρ', gs d ρ ≠ .exc c ρ') : ∀ d ρ c ρ', gL n gs d ρ ≠ .exc c ρ' := by
  intro d ρ c ρ' h
  unfold gL at h
  split at h
  · split at h
    · exact h2 _ _ _ _ h
    · cases h
  · cases h
theorem gL_ap {n : Nat} {gl : List PyData → En → Res Unit} {ds : List PyData} {ρ : En} : gL n gl (.list ds) ρ = if ds.length = n then gl ds ρ else .bad := by
  show (if ds.length = n then gl ds else fun _ => .bad) ρ = _
  split <;> rfl
/-! ### a, b = x, y -/
def sPar (i j : Nat) (gs : En → Res (List Op)) : En → Out := andS gs fun os => andS (fzs os) fun ds => match ds with
  | [d, e] => unS (bnd (gN i d) fun _ => gN j e)
  | _ => fun _ => .bad
theorem ds_par {i j : Nat} {x y : Str} {a b : Expr} {gs : En → Res (List Op)} {px py pt : Pos} {kt k2 : Nat} {pt2 : Pos} (hc : X.calm = true) (hN : X.N.Nodup) (hi : X.N[i]? = some x) (hj : X.N[j]? = some y) (hij : i ≠ j)
    (hx : X.env.scope.names.lookup x = some .local) (hy : X.env.scope.names.lookup y = some .local) (ha : DA X W [a, b] gs)
    (hw : swappedStores [.Tuple [.Name x px, .Name y py] kt pt] (.Tuple [a, b] k2 pt2) X.env = pure (some [x, y]) := by rfl)
    (hs : swapsWithSole [.Tuple [.Name x px, .Name y py] kt pt] (.Tuple [a, b] k2 pt2) pos.line X.env = pure false := by rfl) :
    DS X W (.Assign [.Tuple [.Name x px, .Name y py] kt pt] (.Tuple [a, b] k2 pt2) pos) (sPar i j gs) := by
  obtain ⟨t, p, q⟩ := ha.ex
  refine ⟨_, ps_par hc hN hi hj hij hx hy p hw hs, fun σ F H ρ D E h => q σ F H ρ _ E ?_⟩
  unfold sPar andS at h
  cases e : gs ρ with
  | bad => simp only [e] at h; exact h
  | exc c ρ1 => simp only [e] at h; exact fun F1 H1 g => h σ F1 H1 g.go
  | ok os ρ1 =>
    simp only [e] at h
    intro F1 H1 g1 vs r
    cases q1 : fzs os ρ1 with
    | bad => simp only [andS, q1] at h; exact h.elim
    | exc c ρ2 => exact absurd q1 fzs_noexc
    | ok ds ρ2 =>
      simp only [andS, q1] at h
      obtain ⟨F2, g2, rp, _⟩ := fzs_ok E g1 r q1
      match ds, rp, h with
      | [], _, h => exact h.elim
      | [_], _, h => exact h.elim
      | _ :: _ :: _ :: _, _, h => exact h.elim
      | [d, d'], rp, h =>
        cases rp with
        | cons r1 rp =>
          cases rp with
          | cons r2 rp =>
            cases rp
            refine ⟨_, _, rfl, ?_⟩
            simp only [unS, andS, bnd, gN, put] at h
            cases z1 : ρ2[i]? with
            | none => simp only [z1] at h; exact h.elim
            | some s1 =>
              simp only [z1] at h
              by_cases f1 : s1.free = true
              · rw [if_pos f1] at h
                simp only [] at h
                cases z2 : (ρ2.set i (.val d))[j]? with
                | none => simp only [z2] at h; exact h.elim
                | some s2 =>
                  simp only [z2] at h
                  by_cases f2 : s2.free = true
                  · rw [if_pos f2] at h
                    have G1 := goSet g2.env (.refl g2.env) z1 f1 (.inl ⟨d, rfl, r1⟩)
                    have G2 := goSet G1.env (.refl G1.env) z2 f2 (.inl ⟨d', rfl, r2⟩)
                    exact h _ F2 H1 (g2.go.trans (G1.trans G2))
                  · rw [if_neg f2] at h; exact h.elim
              · rw [if_neg f1] at h; exact h.elim
end
end Py
end L2

namespace L2
namespace Py
open PySem PySem.Spec PyProof.Rows
/-! ### zip of two things of one kind -/
def ItZ (K : PySem.W.Frag) (Sq : PySem.W.Frag → Hp → Addr → List V → Prop) (a b : Addr) : It :=
  ⟨fun i H => ∃ (xs ys : List V) (x y : V), Sq K H a xs ∧ Sq K H b ys ∧ xs[i]? = some x ∧ ys[i]? = some y,
    fun i H v H' => ∃ T x y, v = .ref T ∧ H T = none ∧ H' = upd H T (.tup [x, y]) ∧ (∀ xs, Sq K H a xs → xs[i]? = some x) ∧ ∀ ys, Sq K H b ys → ys[i]? = some y,
    fun i H => ∃ xs ys : List V, Sq K H a xs ∧ Sq K H b ys ∧ (xs.length ≤ i ∨ ys.length ≤ i)⟩
def zipD (ds es : List PyData) : List PyData := (ds.zip es).map fun p => .tuple [p.1, p.2]
theorem itok_zip (off : plainOn = false) {K : PySem.W.Frag} {F H : Hp} {a b : Addr} {xs ys : List V} {ds es : List PyData} {A : Addr → Prop} {Sq : PySem.W.Frag → Hp → Addr → List V → Prop} (h1 : ∀ F2 H2, Same F F2 → Same F2 H2 → Sq K H2 a xs) (h2 : ∀ F2 H2, Same F F2 → Same F2 H2 → Sq K H2 b ys) (r1 : RpL K F xs ds) (r2 : RpL K F ys es) : ItOk K A F H (ItZ K Sq a b) (zipD ds es) := ⟨fun F2 H2 s1 s2 kp => by
  have q1 := h1 F2 H2 s1 s2
  have q2 := h2 F2 H2 s1 s2
  have hl : (zipD ds es).length = min ds.length es.length := by unfold zipD; rw [List.length_map, List.length_zip]
  refine ⟨⟨xs, ys, q1, q2, by rw [hl, r1.length, r2.length]; omega⟩, fun i d hd => ?_⟩
  have hi : i < min ds.length es.length := by rw [← hl]; exact (List.getElem?_eq_some_iff.mp hd).1
  have i1 : i < ds.length := by omega
  have i2 : i < es.length := by omega
  obtain ⟨v, hv, rv⟩ := r1.get (List.getElem?_eq_getElem i1)
  obtain ⟨u, hu, ru⟩ := r2.get (List.getElem?_eq_getElem i2)
  have hd' : d = .tuple [ds[i], es[i]] := by
    unfold zipD at hd
    rw [List.getElem?_map, List.getElem?_zip_eq_some.mpr (⟨List.getElem?_eq_getElem i1, List.getElem?_eq_getElem i2⟩ : ds[i]? = some (ds[i], es[i]).1 ∧ es[i]? = some (ds[i], es[i]).2)] at hd
    simp at hd
    exact hd.symm
  subst hd'
  refine ⟨⟨xs, ys, v, u, q1, q2, hv, hu⟩, fun x H3 ⟨T, y, z, e1, nT, e2, hy, hz⟩ => ?_⟩
  subst e1 e2
  have ey := hy xs q1
  rw [hv] at ey; cases ey
  have ez := hz ys q2
  rw [hu] at ez; cases ez
  have hF : F2 T = none := s2.free nT
  have sF : Same F2 (upd F2 T (.tup [v, u])) := same_upd' (H := H2) hF
  refine ⟨upd F2 T (.tup [v, u]), ⟨sF, fun b o q n => ?_, fun b o q n => ?_, fun b o q => ?_⟩, fun b o q => ?_, .tup (sqP_off off (.inl (.inl upd_same))) (.cons (rv.mono (s1.trans sF)) (.cons (ru.mono (s1.trans sF)) .nil))⟩
  · rw [upd_ne (ne_of_none q nT)]; exact q
  · rw [upd_ne (ne_of_none q nT)]
  · rw [upd_ne (ne_of_none q nT)]; exact ⟨o, q⟩
  · by_cases e : b = T
    · subst e; rw [upd_same] at q; rw [upd_same]; exact q
    · rw [upd_ne e] at q; rw [upd_ne e]; exact s2 _ _ q⟩
def zipP : List PyData → Option (List PyData)
  | [.tuple xs, .tuple ys] => some (zipD xs ys)
  | [.list xs, .list ys] => some (zipD xs ys)
  | _ => none
theorem zipP_cases {ds zs : List PyData} (h : zipP ds = some zs) : (∃ xs ys, ds = [.tuple xs, .tuple ys] ∧ zs = zipD xs ys) ∨ (∃ xs ys, ds = [.list xs, .list ys] ∧ zs = zipD xs ys) := by
  unfold zipP at h
  split at h
  · cases h; exact .inl ⟨_, _, rfl, rfl⟩
  · cases h; exact .inr ⟨_, _, rfl, rfl⟩
  · cases h
def sZip (gs : En → Res (List Op)) : En → Res (List PyData × List Op) := bnd gs fun os => bnd (fzs os) fun ds ρ => match zipP ds with
  | some zs => .ok (zs, []) ρ
  | none => .bad
theorem sZip_ap {gs : En → Res (List Op)} {ρ : En} : sZip gs ρ = bnd gs (fun os => bnd (fzs os) fun ds ρ => match zipP ds with | some zs => .ok (zs, []) ρ | none => .bad) ρ := rfl
theorem di_zip {X : Cx} {W : XW} {e e2 : Expr} {gs : En → Res (List Op)} {p pos tpos : Pos} {elts : List Expr} {kk : Nat} (hg : Gl X "zip") (hm : X.mg "zip" = none) (ha : DA X W [e, e2] gs)
    (hs : starEach [e, e2] X.env = (false, eval e X.env) :: starEach [e2] X.env := by rfl) (hpl : (backTo pos (starEach [e2] X.env)).any (·.1) = false := by rfl) (off : plainOn = false := by rfl) :
    DI X W (.Tuple elts kk tpos) (.Call (.Name "zip" p) [e, e2] [] pos) (sZip gs) := by
  obtain ⟨ta, pa, sa⟩ := ha.ex
  refine ⟨_, RZ.pi_zipA hg hm pa hs hpl, fun σ F H ρ R E h => ?_⟩
  unfold sZip bnd at h
  refine sa σ F H ρ _ E ?_
  cases e : gs ρ with
  | bad => simp only [e] at h; exact h.elim
  | exc c ρ1 => simp only [e] at h; exact h
  | ok os ρ1 =>
    simp only [e] at h
    intro F1 H1 g1 vs r
    cases q1 : fzs os ρ1 with
    | bad => simp only [bnd, q1] at h; exact h.elim
    | exc c ρ2 => exact absurd q1 fzs_noexc
    | ok ds ρ2 =>
      simp only [bnd, q1] at h
      obtain ⟨F2, g2, rp, _⟩ := fzs_ok E g1 r q1
      cases q2 : zipP ds with
      | none => simp only [q2] at h; exact h.elim
      | some zs =>
        simp only [q2] at h
        rcases zipP_cases q2 with ⟨xs, ys, rfl, rfl⟩ | ⟨xs, ys, rfl, rfl⟩
        · cases rp with
          | cons r1 rp =>
            cases rp with
            | cons r2 rp =>
              cases rp
              cases r1 with
              | tup h1 r1 =>
                cases r2 with
                | tup h2 r2 => exact ⟨_, _, _, _, rfl, .inr ⟨same_sqT g2.env.le h1.sq, same_sqT g2.env.le h2.sq, h F2 H1 g2 _ (fun _ => False) [] trivial (fun _ m => nomatch m) (fun _ z => z.elim) (itok_zip off (Sq := SqT) (fun F3 H3 s1 s2 => same_sqT (s1.trans s2) h1.sq) (fun F3 H3 s1 s2 => same_sqT (s1.trans s2) h2.sq) r1 r2)⟩⟩
        · cases rp with
          | cons r1 rp =>
            cases rp with
            | cons r2 rp =>
              cases rp
              cases r1 with
              | lst h1 r1 =>
                cases r2 with
                | lst h2 r2 => exact ⟨_, _, _, _, rfl, .inl ⟨same_sqL g2.env.le h1, same_sqL g2.env.le h2, h F2 H1 g2 _ (fun _ => False) [] trivial (fun _ m => nomatch m) (fun _ z => z.elim) (itok_zip off (Sq := SqL) (fun F3 H3 s1 s2 => same_sqL (s1.trans s2) h1) (fun F3 H3 s1 s2 => same_sqL (s1.trans s2) h2) r1 r2)⟩⟩
end Py
end L2

namespace L2
namespace Py
open PySem PySem.Spec PyProof.Rows
/-! ### slots that are no more needed are emptied -/
def clr1 (i : Nat) (ρ : En) : En := match ρ[i]? with
  | some s => if s.free = true then ρ.set i .no else ρ
  | none => ρ
def clr : List Nat → En → En
  | [], ρ => ρ
  | i :: is, ρ => clr is (clr1 i ρ)
def kill (vs : List Nat) (f : En → Out) : En → Out := fun ρ => match f ρ with
  | .nx ρ' => .nx (clr vs ρ')
  | .ct ρ' => .ct (clr vs ρ')
  | .bk ρ' => .bk (clr vs ρ')
  | o => o
theorem clr1_get {i : Nat} {ρ : En} (j : Nat) : (clr1 i ρ)[j]? = ρ[j]? ∨ (∃ s, ρ[j]? = some s ∧ s.free = true ∧ (clr1 i ρ)[j]? = some .no) := by
  unfold clr1
  cases q : ρ[i]? with
  | none => exact .inl rfl
  | some s =>
    simp only
    by_cases hf : s.free = true
    · rw [if_pos hf]
      by_cases e : i = j
      · subst e; exact .inr ⟨s, q, hf, set_self q⟩
      · exact .inl (List.getElem?_set_ne e)
    · rw [if_neg hf]; exact .inl rfl
theorem clr1_len {i : Nat} {ρ : En} : (clr1 i ρ).length = ρ.length := by
  unfold clr1
  split
  · split
    · exact List.length_set
    · rfl
  · rfl
theorem clr1_back {i j : Nat} {ρ : En} {s : Sl} (h : (clr1 i ρ)[j]? = some s) : ρ[j]? = some s ∨ s = .no := by
  rcases clr1_get (i := i) (ρ := ρ) j with e | ⟨_, _, _, e⟩
  · exact .inl (e ▸ h)
  · rw [e] at h; cases h; exact .inr rfl
theorem clr1_keep {i j : Nat} {ρ : En} {s : Sl} (h : ρ[j]? = some s) (hf : s.free = false) : (clr1 i ρ)[j]? = some s := by
  rcases clr1_get (i := i) (ρ := ρ) j with e | ⟨s', e1, e2, _⟩
  · rw [e]; exact h
  · rw [h] at e1; cases e1; rw [hf] at e2; cases e2
theorem Go.clr1 {K : PySem.W.Frag} {F H F' H' : Hp} {σ σ' : St} {ρ ρ' : En} (g : Go K σ ρ F H σ' ρ' F' H') (i : Nat) : Go K σ ρ F H σ' (clr1 i ρ') F' H' where
  evo := g.evo
  env := ⟨by rw [clr1_len]; exact g.env.len, g.env.le, fun j s h => by
      rcases clr1_back h with h | rfl
      · exact g.env.sl j s h
      · have hl : j < ρ'.length := by rw [← clr1_len (i := i)]; exact (List.getElem?_eq_some_iff.mp h).1
        obtain ⟨o, e, _⟩ := g.env.sl j _ (List.getElem?_eq_getElem hl)
        exact ⟨o, e, trivial⟩,
    fun j k s t a ne h1 h2 m p z1 z2 => by
      rcases clr1_back h1 with h1 | rfl
      · rcases clr1_back h2 with h2 | rfl
        · exact g.env.inj j k s t a ne h1 h2 m p z1 z2
        · cases p
      · cases m⟩
  own := fun a ⟨j, d, h1, h2⟩ => by
    rcases clr1_back h1 with h1 | h1
    · exact g.own a ⟨j, d, h1, h2⟩
    · cases h1
  inn := fun j d h => by
    rcases clr1_back h with h | h
    · exact g.inn j d h
    · cases h
  bor := fun j d h => by
    rcases clr1_back h with h | h
    · exact g.bor j d h
    · cases h
  kin := fun j d h => by
    obtain ⟨e, d', h'⟩ := g.kin j d h
    refine ⟨e, d', ?_⟩
    rcases h' with h' | h'
    · exact .inl (clr1_keep h' rfl)
    · exact .inr (clr1_keep h' rfl)
  kbo := fun j d h => ⟨(g.kbo j d h).1, clr1_keep (g.kbo j d h).2 rfl⟩
  kfx := fun j d h => ⟨(g.kfx j d h).1, clr1_keep (g.kfx j d h).2 rfl⟩
  len := by rw [clr1_len]; exact g.len
theorem Go.clr {K : PySem.W.Frag} {F H F' H' : Hp} {σ σ' : St} {ρ : En} : ∀ (vs : List Nat) {ρ' : En}, Go K σ ρ F H σ' ρ' F' H' → Go K σ ρ F H σ' (clr vs ρ') F' H'
  | [], _, g => g
  | i :: vs, _, g => Go.clr vs (g.clr1 i)
theorem PostS.kill {K : PySem.W.Frag} {W : XW} {σ : St} {ρ : En} {F H : Hp} {f : En → Out} {D : Ends} {vs : List Nat} (h : PostS K W σ ρ F H (kill vs f ρ) D) : PostS K W σ ρ F H (f ρ) D := by
  unfold Py.kill at h
  cases q : f ρ with
  | nx ρ' => rw [q] at h; exact fun σ' F' H' g => h σ' F' H' (g.clr vs)
  | ct ρ' => rw [q] at h; exact fun σ' F' H' g => h σ' F' H' (g.clr vs)
  | bk ρ' => rw [q] at h; exact fun σ' F' H' g => h σ' F' H' (g.clr vs)
  | rt r ρ' => rw [q] at h; exact h
  | rd r ρ' => rw [q] at h; exact h
  | exc c ρ' => rw [q] at h; exact h
  | bad => rw [q] at h; exact h
section
variable {X : Cx} {W : XW} {pos : Pos}
theorem ds_kill {st : Stmt} {f : En → Out} (vs : List Nat) (h : DS X W st f) : DS X W st (kill vs f) := by
  obtain ⟨t, p, q⟩ := h.ex
  exact ⟨t, p, fun σ F H ρ D E h => q σ F H ρ D E h.kill⟩
theorem dss_kill {st : List Stmt} {f : En → Out} (vs : List Nat) (h : DSs X W st f) : DSs X W st (kill vs f) := by
  obtain ⟨t, p, q⟩ := h.ex
  exact ⟨t, p, fun σ F H ρ D E h => q σ F H ρ D E h.kill⟩
end
end Py
end L2

namespace L2
namespace Py
open PySem PySem.Spec PyProof.Rows
/-! ### f() -/
section
variable {X : Cx} {W : XW} {pos : Pos}
def sCall0 (fs : En → Res Op) : En → Res Op := callF fs []
theorem de_call0 {fs : En → Res Op} {k : Nat} {f : Addr} {fd : FuncData} {x : Str} {p : Pos} (F : FnOk X.prog X.w X.K X.mg X.base CX0 k f fd [] (spF X.K 0 fs)) (hr : Room k X.A) (hg : Gl X x) (hm : X.mg x = some (.ref f)) (hk : PySem.W.keepIn X.K (.ref f) = true) (hb : Binds X.K fd [] [])
    (hdb : (x == ("__debug__" : Str)) = false := by decide) : DE X W (.Call (.Name x p) [] [] pos) (sCall0 fs) := by
  refine ⟨_, pe_call0 F hr hg hm hk hb .nil pass0 hdb, fun σ F H ρ Q E h => ?_⟩
  unfold sCall0 callF at h
  have q : zq6w ρ [] = some [] := rfl
  simp only [q] at h
  have nd : ndN (zq6x []) = true := rfl
  rw [if_pos nd] at h
  have ods : Ods X.K H F H σ [] [] := ⟨trivial, .nil⟩
  obtain ⟨Ea, ar⟩ := args_env E (GoE.refl E) ods nd q
  refine ⟨F, [], rfl, Ea, ar, ?_⟩
  have bk : ∀ outs : En, OutsOk [] outs → back [] outs ρ = zq6y [] outs 0 ρ := fun outs oo => by
    unfold back
    exact (backE_nil rfl (by rw [oo.len]; rfl) 0 ρ).symm
  cases q2 : fs [] with
  | bad => simp only [q2] at h; exact h.elim
  | exc c r => simp only [q2] at h; exact h.elim
  | ok r outs =>
    simp only [q2] at h
    intro v F' H' ev Eo oo rr
    have gg := call_go E (GoE.refl E) ods nd q ev Eo oo
    cases r with
    | v d => exact h F' H' (by rw [bk outs oo]; exact gg) v rr
    | fr d =>
      obtain ⟨a, e1, n, ob⟩ := rr
      exact h F' H' (by rw [bk outs oo]; exact gg) v ⟨a, e1, n, ob⟩
    | pl i => exact h.elim
end
/-! ### a def that calls itself: by how deep it may -/
def badF : En → Res Op := fun _ => .bad
theorem fn_bad {P : Program} {w : World} {K : PySem.W.Frag} {mg : Str → Option Value} {base : Heap} {k : Nat} {f : Addr} {fd : FuncData} {ps : List Str} {n : Nat} : FnOk P w K mg base CX0 k f fd ps (spF K n badF) :=
  ⟨fun vs H Q E h => by obtain ⟨_, _, _, _, _, h⟩ := h; exact h.elim, fun A outer s H args us vs Q E _ _ _ _ h => by obtain ⟨_, _, _, _, _, h⟩ := h; exact h.elim⟩
/-! ### sorted(xs) -/
open PySem.W in
def okS (ds : List PyData) : Bool := ds.all (fun x => ds.all fun y => alike x y) && (ds.all (fun x => match x with | .tuple (_ :: _) => true | _ => false) || ds.all (fun x => match x with | .none => false | .tuple _ => false | _ => true)) && decide (PyData.depthAll ds ≤ 60)
open PySem.W in
theorem okS_iff {ds : List PyData} (h : okS ds = true) : AllAlike ds ∧ Sortable ds ∧ PyData.depthAll ds ≤ 60 := by
  unfold okS at h
  simp only [Bool.and_eq_true, Bool.or_eq_true, List.all_eq_true, decide_eq_true_eq] at h
  obtain ⟨⟨h1, h2⟩, h3⟩ := h
  refine ⟨fun d m d' m' => h1 d m d' m', ?_, h3⟩
  rcases h2 with h2 | h2
  · left
    intro d m
    have := h2 d m
    split at this
    · rename_i x r; exact ⟨x, r, rfl⟩
    · cases this
  · right
    intro d m
    have := h2 d m
    refine ⟨fun z => ?_, fun xs z => ?_⟩
    · subst z; cases this
    · subst z; cases this
theorem depthAll_mem : ∀ {ds : List PyData} {d : PyData}, d ∈ ds → d.depth ≤ PyData.depthAll ds
  | x :: ds, d, m => by
    rw [PyData.depthAll]
    rcases List.mem_cons.mp m with e | m
    · rw [e]; exact Nat.le_max_left _ _
    · exact Nat.le_trans (depthAll_mem m) (Nat.le_max_right _ _)
open PySem.W in
def sortD (ds : List PyData) : List PyData := ds.mergeSort (dataLe false id)
def rSortD (K : PySem.W.Frag) : List V → Hp → VK → Prop := fun vs H Q => ∃ (F : Hp) (a : Addr) (xs : List V) (ds : List PyData), Same F H ∧ vs = [.ref a] ∧ SqL K H a xs ∧ RpL K F xs ds ∧ okS ds = true ∧ ∀ ys p, ys.length = xs.length → RpL K F ys (sortD ds) → H p = none → Q (.ref p) (upd H p (.lst ys))
theorem each_of {K : PySem.W.Frag} {H : Hp} : ∀ {xs : List V} {us : List Value} {ds : List PyData}, Vals xs us → RpL K H xs ds → PySem.W.EachIs (fun (u : Value) (d : PyData) => ∃ y, RelV y u ∧ Rp K H y d) us ds
  | _, _, _, .nil, .nil => .nil
  | _, _, _, .cons r t, .cons q s => .cons ⟨_, r, q⟩ (each_of t s)
theorem each_back {K : PySem.W.Frag} {H : Hp} : ∀ {us : List Value} {ds : List PyData}, PySem.W.EachIs (fun (u : Value) (d : PyData) => ∃ y, RelV y u ∧ Rp K H y d) us ds → ∃ ys, Vals ys us ∧ RpL K H ys ds
  | _, _, .nil => ⟨[], .nil, .nil⟩
  | _, _, .cons ⟨y, r, q⟩ t => by
    obtain ⟨ys, h1, h2⟩ := each_back t
    exact ⟨y :: ys, .cons r h1, .cons q h2⟩
theorem each_reads {X : Cx} {pins : List (Addr × Obj)} {σ : St} {F H : Hp} {s : Shared} (I : Inv X pins σ H s) (le : Same F H) : ∀ {us : List Value} {ds : List PyData}, PySem.W.EachIs (fun (u : Value) (d : PyData) => ∃ y, RelV y u ∧ Rp X.K F y d) us ds → PySem.W.EachIs (fun (u : Value) (d : PyData) => ∃ as, Reads s.heap u (id d) as) us ds
  | _, _, .nil => .nil
  | _, _, .cons ⟨y, r, q⟩ t => .cons (Rp.reads I _ _ _ (q.mono le) r) (each_reads I le t)
section
variable {X : Cx} {W : XW} {pos : Pos}
open PySem.W in
theorem cr_sortD (hu : X.A.units + 64 < cLine) : CallR X (.builtin "sorted") (rSortD X.K) := by
  intro pins s σ H vs us Q I r h
  obtain ⟨F, a, xs, ds, le, rfl, hs, rx, ok, q⟩ := h
  obtain ⟨k1, k2, k3⟩ := okS_iff ok
  obtain ⟨its, rv, hl, hz⟩ := I.list hs
  obtain ⟨u, rfl, ru⟩ := vals1 r
  obtain rfl : u = Value.ref a := ru
  have e1 := each_of rv rx
  have e2 := each_reads I le e1
  refine sorted_data (bs := ds) (enc := id) (R := fun (u : Value) (d : PyData) => ∃ y, RelV y u ∧ Rp X.K F y d) hl.isList e1 e2 (by rw [List.map_id]; exact k1) (by rw [List.map_id]; exact k2) (by rw [← rx.length]; exact hz) (fun b hb => ?_) fun out hlen eo => ?_
  · have := depthAll_mem hb
    show X.A.units + 2 + b.depth < cLine
    omega
  · obtain ⟨ys, h1, h2⟩ := each_back eo
    obtain ⟨e, he⟩ := sortedAll_at s.heap its out.toArray
    have hyl : ys.length = xs.length := by rw [h1.length, hlen, rx.length]
    refine ⟨.ref (s.heap.objs.size + 1), upd H (s.heap.objs.size + 1) (.lst ys), I.laid (t' := s.toks) (fun _ _ => sortedAll_old) (Nat.le_succ _) ⟨?_, out, e, h1, he⟩, rfl, q ys _ hyl h2 (I.hok.fresh (Nat.le_succ _))⟩
    rw [hyl]; exact hz
end
theorem boot_sorted' : bootBuiltins "sorted" = some (.builtin "sorted") := by decide +kernel
def pSorted : List PyData → Option Op
  | [.list ds] => if okS ds = true then some (.fr (.list (sortD ds))) else none
  | _ => none
theorem pn_sorted {K : PySem.W.Frag} : PN K (rSortD K) pSorted := by
  intro F H xs ds o Q le rs ho q
  unfold pSorted at ho
  split at ho
  · split at ho
    · rename_i ds hk
      cases ho
      obtain ⟨v, rfl, a, ys, rfl, h1, r1⟩ := rds1 rs
      exact ⟨F, a, ys, ds, le, rfl, h1, r1, hk, fun zs p hl r hp => gives_lst le r hp q⟩
    · cases ho
  · cases ho
/-! ### isinstance(x, (list, tuple)) -/
def tyN : PyData → String
  | .none => "NoneType"
  | .bool _ => "bool"
  | .int _ => "int"
  | .str _ => "str"
  | .list _ => "list"
  | .tuple _ => "tuple"
  | .dict _ => "dict"
def nestOf : PyData → Bool
  | .dict ds => nestD ds
  | _ => false
theorem rp_ty {K : PySem.W.Frag} {H : Hp} {v : V} {d : PyData} (h : Rp K H v d) (nd : nestOf d = false) : TyX K H v (.type (tyN d)) := by
  cases h with
  | non => exact .base .non
  | bl b => exact .base (.bl b)
  | int i => exact .base (.int i)
  | str x => exact .base (.str x)
  | lst h _ =>
    rcases h with (h | ⟨o, h⟩) | h
    · exact .base (.lst h)
    · exact .base (.frz h)
    · obtain ⟨o, _, _, h1, h2, _⟩ := h; exact .kList h1 h2
  | tup h _ =>
    rcases h.sq with (h | ⟨o, h⟩) | h
    · exact .base (.tup h)
    · exact .fTuple h
    · obtain ⟨o, _, _, h1, h2, _⟩ := h; exact .kTuple h1 h2
  | dic h _ =>
    rcases h with h | ⟨o, h⟩
    · exact .base (.dK h)
    · exact .fDict h
  | dicN _ r n => rw [nestOf, r.nest n] at nd; cases nd
def isLT (d : PyData) : Bool := d.isList || d.isTuple
def pIsLT (d : PyData) : Option Op := if nestOf d = true then none else some (.v (.bool (isLT d)))
theorem kit_lt (K : PySem.W.Frag) (d : PyData) : PySem.W.kitAny K (.type (tyN d)) [.type "list", .type "tuple"] = some (isLT d) := by
  cases d with
  | none => exact kitAny_cons (kit_ty (by decide +kernel : kitB "NoneType" "list" = some false)) (fun _ => kitAny_cons (kit_ty (by decide +kernel : kitB "NoneType" "tuple" = some false)) (fun _ => kitAny_nil) (fun z => nomatch z)) (fun z => nomatch z)
  | bool b => exact kitAny_cons (kit_ty (by decide +kernel : kitB "bool" "list" = some false)) (fun _ => kitAny_cons (kit_ty (by decide +kernel : kitB "bool" "tuple" = some false)) (fun _ => kitAny_nil) (fun z => nomatch z)) (fun z => nomatch z)
  | int b => exact kitAny_cons (kit_ty (by decide +kernel : kitB "int" "list" = some false)) (fun _ => kitAny_cons (kit_ty (by decide +kernel : kitB "int" "tuple" = some false)) (fun _ => kitAny_nil) (fun z => nomatch z)) (fun z => nomatch z)
  | str b => exact kitAny_cons (kit_ty (by decide +kernel : kitB "str" "list" = some false)) (fun _ => kitAny_cons (kit_ty (by decide +kernel : kitB "str" "tuple" = some false)) (fun _ => kitAny_nil) (fun z => nomatch z)) (fun z => nomatch z)
  | list b => exact kitAny_cons (kit_ty (by decide +kernel : kitB "list" "list" = some true)) (fun z => nomatch z) (fun _ => rfl)
  | tuple b => exact kitAny_cons (kit_ty (by decide +kernel : kitB "tuple" "list" = some false)) (fun _ => kitAny_cons (kit_ty (by decide +kernel : kitB "tuple" "tuple" = some true)) (fun z => nomatch z) (fun _ => rfl)) (fun z => nomatch z)
  | dict b => exact kitAny_cons (kit_ty (by decide +kernel : kitB "dict" "list" = some false)) (fun _ => kitAny_cons (kit_ty (by decide +kernel : kitB "dict" "tuple" = some false)) (fun _ => kitAny_nil) (fun z => nomatch z)) (fun z => nomatch z)
section
variable {X : Cx} {W : XW} {pos : Pos}
theorem de_isiLT {a : Expr} {f : En → Res Op} {x y : Str} {p p2 p3 pt : Pos} {x1 : Nat} (hg : Gl X "isinstance") (hm : X.mg "isinstance" = none) (hT : PE X (.Name x p2) (tC (.ty "list"))) (hT2 : PE X (.Name y p3) (tC (.ty "tuple"))) (ha : DE X W a f)
    (he : starEach [a, .Tuple [.Name x p2, .Name y p3] x1 pt] X.env = (false, eval a X.env) :: starEach [.Tuple [.Name x p2, .Name y p3] x1 pt] X.env := by rfl) (hpl : (backTo pos (starEach [.Tuple [.Name x p2, .Name y p3] x1 pt] X.env)).any (·.1) = false := by rfl) (hs : starEach [.Tuple [.Name x p2, .Name y p3] x1 pt] X.env = (false, eval (.Tuple [.Name x p2, .Name y p3] x1 pt) X.env) :: starEach [] X.env := by rfl)
    (h1 : starEach [.Name x p2, .Name y p3] X.env = (false, eval (.Name x p2) X.env) :: starEach [.Name y p3] X.env := by rfl) (h2 : starEach [.Name y p3] X.env = (false, eval (.Name y p3) X.env) :: starEach [] X.env := by rfl) :
    DE X W (.Call (.Name "isinstance" p) [a, .Tuple [.Name x p2, .Name y p3] x1 pt] [] pos) (sP1 pIsLT f) := by
  obtain ⟨ta, pa, sa⟩ := ha.ex
  refine ⟨_, pe_callB call_isiT hg hm (by decide +kernel) (pa_cons pa (pa_cons (pe_tup (pa_cons hT (pa_cons hT2 pa_nil h2) h1)) pa_nil hs) he) (by decide) (by decide) he hpl, fun σ F H ρ Q E h => sa σ F H ρ _ E (h.split.imp fun o1 ρ1 F1 H1 _ g1 h1 v1 r1 => ?_)⟩
  obtain ⟨d, e1, h2⟩ := post_rdd g1.env h1
  unfold pIsLT at h2
  have nd : nestOf d = false := by
    cases q : nestOf d with
    | false => rfl
    | true => rw [q, if_pos rfl] at h2; exact h2.elim
  rw [nd, if_neg Bool.false_ne_true] at h2
  have h2 : ∀ F' H', GoE X.K σ ρ1 F1 H1 ρ1 F' H' → ∀ v, OdR X.K H F' H' σ v (.v (.bool (isLT d))) → Q v H' := h2
  refine ⟨Nat.le_of_lt (small1000 (by decide)), fun tp hp => ?_⟩
  have g3 := GoE.layF g1.env hp (.tup [.ty "list", .ty "tuple"])
  refine ⟨v1, tp, [.ty "list", .ty "tuple"], .type (tyN d), [.type "list", .type "tuple"], isLT d, rfl, upd_same, .cons (.ty _) (.cons (.ty _) .nil), ?_, kit_lt _ d, h2 _ _ g3 _ (.bl _)⟩
  have r2 := (r1.rd1 g1.env e1).rp g1.env.le
  refine rp_ty (r2.mono fun b o q => ?_) nd
  rw [upd_ne (ne_of_none q hp)]; exact q
end
end Py
end L2

namespace L2
namespace Py
open PySem PySem.Spec PyProof.Rows
/-! ### x // j, j great -/
def pDivW := pI (fun _ j => decide (0 < j ∧ j < 2 ^ 256)) fun i j => i / j
theorem p2_divW {K : PySem.W.Frag} : P2 K (rI CDivW fun i j => .int (i / j)) pDivW := p2_I fun i j h => by
  have h := of_decide_eq_true h
  refine ⟨h.1, ?_⟩
  have h2 : j.natAbs < 2 ^ 256 := by
    have : (j.natAbs : Int) < 2 ^ 256 := by omega
    exact_mod_cast this
  have := PySem.Flt.log2_lt_of (by decide : 0 < 256) h2
  omega
theorem zq65 {i j : Int} : pDivW (.int i) (.int j) = if 0 < j ∧ j < 2 ^ 256 then some (.v (.int (i / j))) else none := by simp only [pDivW, pI, decide_eq_true_eq]
section
variable {X : Cx} {W : XW} {pos : Pos} {a b : Expr} {f1 f2 : En → Res Op}
theorem de_divW (ha : DE X W a f1) (hb : DE X W b f2) : DE X W (.BinOp a .FloorDiv b pos) (sP2 pDivW f1 f2) := de_op op_fdivW p2_divW ha hb
end
end Py
end L2

namespace L2
namespace Py
open PySem PySem.Spec PyProof.Rows
/-! ### for i in reversed(range(n)) -/
def sRevR (f : En → Res Op) : En → Res (List PyData × List Op) := bnd f fun o => bnd (rdd o) fun d ρ => match d with
  | .int j => if -(2 ^ 62) ≤ j ∧ j < 2 ^ 62 then .ok ((rng 0 j.toNat).reverse, []) ρ else .bad
  | _ => .bad
theorem itok_revR {K : PySem.W.Frag} {F H : Hp} {n : Nat} {A : Addr → Prop} : ItOk K A F H (Itc (0 + (n : Int) - 1) (-1) n) (rng 0 n).reverse := ⟨fun F2 H2 s1 s2 k => by
  have hl : (rng 0 n).reverse.length = n := by unfold rng; rw [List.length_reverse, List.length_map, List.length_range]
  refine ⟨by rw [hl]; exact Nat.le_refl _, fun i d hd => ?_⟩
  have hi : i < n := by rw [← hl]; exact (List.getElem?_eq_some_iff.mp hd).1
  refine ⟨hi, fun x H3 ⟨e1, e2⟩ => ?_⟩
  subst e1 e2
  have : d = .int (0 + (n : Int) - 1 + (i : Nat) * (-1)) := by
    unfold rng at hd
    rw [List.getElem?_reverse (by rw [List.length_map, List.length_range]; exact hi), List.getElem?_map, List.length_map, List.length_range, List.getElem?_range (by omega)] at hd
    simp at hd
    rw [← hd]
    congr 1
    omega
  subst this
  exact ⟨F2, Evo.refl, s2, .int _⟩⟩
section
variable {X : Cx} {W : XW} {pos : Pos} {tg : Expr}
theorem di_revR {a : Expr} {p p2 pos2 : Pos} {f : En → Res Op} (hg : Gl X "reversed") (hm : X.mg "reversed" = none) (hg2 : Gl X "range") (hm2 : X.mg "range" = none) (ha : DE X W a f)
    (hs : starEach [.Call (.Name "range" p2) [a] [] pos2] X.env = (false, eval (.Call (.Name "range" p2) [a] [] pos2) X.env) :: starEach [] X.env := by rfl) (na : starEach [a] X.env = (false, eval a X.env) :: starEach [] X.env := by rfl) :
    DI X W tg (.Call (.Name "reversed" p) [.Call (.Name "range" p2) [a] [] pos2] [] pos) (sRevR f) := by
  obtain ⟨ta, pa, sa⟩ := ha.ex
  refine ⟨_, pi_revR hg hm (prg_1 hg2 hm2 pa na) hs, fun σ F H ρ R E h => ?_⟩
  refine sa σ F H ρ _ E (h.split.imp fun o1 ρ1 F1 H1 _ g1 h1 v1 r1 => ?_)
  obtain ⟨d, e1, h2⟩ := post_rdd g1.env h1
  have rr := r1.rd1 g1.env e1
  split at h2
  · rename_i j
    split at h2
    · rename_i hb
      rw [rd1_int rr]
      have e0 : (j - 0).toNat = j.toNat := by rw [Int.sub_zero]
      refine ⟨j, rfl, by decide, by decide, hb.1, hb.2, ?_⟩
      rw [e0]
      exact h2 F1 H1 (.refl g1.env) _ (fun _ => False) [] trivial (fun _ m => nomatch m) (fun _ z => z.elim) itok_revR
    · exact h2.elim
  · exact h2.elim
end
end Py
end L2

namespace L2
namespace Py
open PySem PySem.Spec PyProof.Rows
/-! ### dicts with ints and texts as keys -/
def keyOf : PyData → Option Key
  | .int i => some (.inl i)
  | .str x => some (.inr x)
  | _ => none
def eqK : PyData → PyData → Bool
  | .int i, .int j => i == j
  | .str x, .str y => x == y
  | _, _ => false
def lookD (ds : List (PyData × PyData)) (k : PyData) : Option PyData := (ds.find? fun p => eqK p.1 k).map (·.2)
def putD (ds : List (PyData × PyData)) (k v : PyData) : List (PyData × PyData) :=
  if (ds.any fun p => eqK p.1 k) = true then ds.map (fun p => if eqK p.1 k = true then (p.1, v) else p) else ds ++ [(k, v)]
theorem eqK_key (a b : Key) : eqK (keyD a) (keyD b) = decide (a = b) := by
  cases a with
  | inl i => cases b with
    | inl j =>
      by_cases h : i = j
      · subst h; simp [keyD, eqK]
      · simp [keyD, eqK, h]
    | inr y => simp [keyD, eqK]
  | inr x => cases b with
    | inl j => simp [keyD, eqK]
    | inr y =>
      by_cases h : x = y
      · subst h; simp [keyD, eqK]
      · simp [keyD, eqK, h]
theorem keyD_of {d : PyData} {k : Key} (h : keyOf d = some k) : d = keyD k := by
  cases d <;> simp [keyOf] at h <;> subst h <;> rfl
theorem RpK.look {K : PySem.W.Frag} {F : Hp} (k : Key) : ∀ {kvs : List (Key × V)} {ds : List (PyData × PyData)}, RpK K F kvs ds → (∀ d, lookD ds (keyD k) = some d → ∃ v, valV kvs k = some v ∧ Rp K F v d) ∧ (lookD ds (keyD k) = none → valV kvs k = none)
  | _, _, .nil => ⟨(fun _ h => nomatch h), fun _ => rfl⟩
  | _, _, @RpK.cons _ _ k' v kvs d ds r t => by
    have ih := RpK.look k t
    by_cases h : k' = k
    · subst h
      refine ⟨fun d' e => ⟨v, valV_pos rfl, ?_⟩, fun e => ?_⟩
      · simp [lookD, eqK_key] at e; subst e; exact r
      · simp [lookD, eqK_key] at e
    · have e : lookD ((keyD k', d) :: ds) (keyD k) = lookD ds (keyD k) := by simp [lookD, List.find?_cons, eqK_key, h]
      rw [e, valV_neg h]
      exact ih
theorem RpK.any {K : PySem.W.Frag} {F : Hp} (k : Key) : ∀ {kvs : List (Key × V)} {ds : List (PyData × PyData)}, RpK K F kvs ds → (ds.any fun p => eqK p.1 (keyD k)) = (kvs.any fun kv => decide (kv.1 = k))
  | _, _, .nil => rfl
  | _, _, .cons r t => by rw [List.any_cons, List.any_cons, RpK.any k t, eqK_key]
theorem RpK.snoc {K : PySem.W.Frag} {F : Hp} {k : Key} {v : V} {d : PyData} (r : Rp K F v d) : ∀ {kvs : List (Key × V)} {ds : List (PyData × PyData)}, RpK K F kvs ds → RpK K F (kvs ++ [(k, v)]) (ds ++ [(keyD k, d)])
  | _, _, .nil => .cons r .nil
  | _, _, .cons q t => .cons q (t.snoc r)
theorem RpK.mapP {K : PySem.W.Frag} {F : Hp} {k : Key} {v : V} {d : PyData} (r : Rp K F v d) : ∀ {kvs : List (Key × V)} {ds : List (PyData × PyData)}, RpK K F kvs ds → RpK K F (kvs.map fun kv => if kv.1 = k then (kv.1, v) else kv) (ds.map fun p => if eqK p.1 (keyD k) = true then (p.1, d) else p)
  | _, _, .nil => .nil
  | _, _, @RpK.cons _ _ k' v' kvs d' ds q t => by
    have ih := t.mapP r (k := k)
    by_cases h : k' = k
    · rw [List.map_cons, List.map_cons, eqK_key, if_pos h, if_pos (by simp [h])]; exact .cons r ih
    · rw [List.map_cons, List.map_cons, eqK_key, if_neg h, if_neg (by simp [h])]; exact .cons q ih
theorem RpK.put {K : PySem.W.Frag} {F : Hp} {k : Key} {v : V} {d : PyData} (r : Rp K F v d) {kvs : List (Key × V)} {ds : List (PyData × PyData)} (h : RpK K F kvs ds) : RpK K F (putK kvs k v) (putD ds (keyD k) d) := by
  unfold putK putD
  rw [RpK.any k h]
  split
  · exact h.mapP r
  · exact h.snoc r
theorem rd1_key {K : PySem.W.Frag} {F H : Hp} {x : V} {d : PyData} {k : Key} (h : Rd1 K F H x d) (e : keyOf d = some k) : x = kV k := by
  cases d <;> simp [keyOf] at e <;> subst e
  · exact rd1_int h
  · exact rd1_str h
/-! d[k] -/
def rDGet : R2 := fun x y H Q => ∃ a v, x = .ref a ∧ DGet H a y (some v) ∧ Q v H
section
variable {X : Cx} {W : XW} {pos : Pos} {a b c : Expr} {f1 f2 f3 : En → Res Op}
theorem ix_dict (hu : X.A.units + 1 < cLine) : IxR X rDGet := by
  intro value slice pins s σ H x y v u Q I rx ry h hs
  obtain ⟨a, z, rfl, g, q⟩ := h
  obtain rfl : v = Value.ref a := rx
  have hT := dict_typeIs I g
  unfold subscriptTail
  refine wpAny_bind ?_
  rw [getitemInPython_of_ne hT.not_modules]
  refine wpAny_bind (wpAny_specialOf hT PySem.F.slot_dict_getitem.lookup ?_)
  have fin : wpAny (model X.prog X.w) X.A (subscripted slice false (.ref a) u) (fun r s₃ => wpAny (model X.prog X.w) X.A (letTemporaryGo value (.ref a) r >>= fun _ => pure r) (EP X pins σ Q) X.xe s₃) X.xe s := by
    rw [hs]
    exact wpAny_operating (wpAny_mono (d_getItem hu I g ry fun w' s3 I3 rw' => (⟨z, H, I3, rw', q⟩ : EP X pins σ Q w' s3)) (fun r s₃ h₃ => wpAny_bind (wpAny_letTemporaryGo (wpAny_pure h₃))) fun _ _ x => x)
  first
    | exact wpAny_pure (wpAny_bind fin)
    | exact wpAny_bind (wpAny_pure (wpAny_bind fin))
    | exact wpAny_bind fin
def pIxD : PyData → PyData → Option Op
  | .dict ds, k => if nestD ds = true then none else (keyOf k).bind fun _ => (lookD ds k).map .v
  | _, _ => none
theorem p2_ixD {K : PySem.W.Frag} : P2 K rDGet pIxD := by
  intro F H x y d e o Q le rx ry ho q
  unfold pIxD at ho
  split at ho
  · rename_i ds
    split at ho
    · cases ho
    rename_i nd
    cases hk : keyOf e with
    | none => rw [hk] at ho; cases ho
    | some k =>
      rw [hk] at ho
      have ee := keyD_of hk
      subst ee
      obtain ⟨a, kvs, rfl, hH, r⟩ := rx.flat (by simpa using nd)
      cases hl : lookD ds (keyD k) with
      | none => rw [Option.bind_some, hl] at ho; cases ho
      | some d' =>
        rw [Option.bind_some, hl] at ho
        cases ho
        obtain ⟨v, hv, rv⟩ := (r.look k).1 d' hl
        rw [rd1_key ry hk]
        exact ⟨a, v, rfl, by rw [← hv]; exact .inl ⟨kvs, k, hH, rfl, rfl⟩, gives_v le rv q⟩
  · cases ho
def pIx2 (d e : PyData) : Option Op := match pIx d e with
  | some o => some o
  | none => pIxD d e
theorem de_sub2 {k : Nat} (hr : Room k X.A) (ha : DE X W a f1) (hb : DE X W b f2) (hm : PlainIx b := by exact fun _ _ => rfl) : DE X W (.Subscript a b pos) (sP2 pIx2 f1 f2) :=
  de_ix (ix_seq.or (ix_dict (by have := hr.units; omega))) (p2_ix.or p2_ixD) ha hb hm
/-! k in d -/
def rDIn (n : Bool → Bool) : R2 := fun y x H Q => ∃ a o, x = .ref a ∧ DGet H a y o ∧ Q (.bl (n o.isSome)) H
theorem op_din (hu : X.A.units + 1 < cLine) : OpR X (compareOp .In) (rDIn id) := by
  intro pins s σ H x y v u Q I rx ry h
  obtain ⟨a, o, rfl, g, q⟩ := h
  obtain rfl : u = Value.ref a := ry
  exact d_in hu I g rx fun s' I' => ⟨.bl _, H, I', rfl, q⟩
theorem op_dnotin (hu : X.A.units + 1 < cLine) : OpR X (compareOp .NotIn) (rDIn not) := by
  intro pins s σ H x y v u Q I rx ry h
  obtain ⟨a, o, rfl, g, q⟩ := h
  obtain rfl : u = Value.ref a := ry
  exact d_notIn hu I g rx fun s' I' => ⟨.bl _, H, I', rfl, q⟩
def pInD (n : Bool → Bool) : PyData → PyData → Option Op
  | k, .dict ds => if nestD ds = true then none else (keyOf k).map fun _ => .v (.bool (n (lookD ds k).isSome))
  | _, _ => none
theorem p2_inD {K : PySem.W.Frag} {n : Bool → Bool} : P2 K (rDIn n) (pInD n) := by
  intro F H x y d e o Q le rx ry ho q
  unfold pInD at ho
  split at ho
  · rename_i ds
    split at ho
    · cases ho
    rename_i nd
    cases hk : keyOf d with
    | none => rw [hk] at ho; cases ho
    | some k =>
      rw [hk] at ho
      cases ho
      have ee := keyD_of hk
      subst ee
      obtain ⟨a, kvs, rfl, hH, r⟩ := ry.flat (by simpa using nd)
      rw [rd1_key rx hk]
      refine ⟨a, valV kvs k, rfl, .inl ⟨kvs, k, hH, rfl, rfl⟩, ?_⟩
      have e : (valV kvs k).isSome = (lookD ds (keyD k)).isSome := by
        cases hl : lookD ds (keyD k) with
        | none => rw [(r.look k).2 hl]; rfl
        | some d' => obtain ⟨v, hv, _⟩ := (r.look k).1 d' hl; rw [hv]; rfl
      rw [e]
      exact gives_v le (.bl _) q
  · cases ho
def pIn2 (n : Bool → Bool) (d e : PyData) : Option Op := match pIn n d e with
  | some o => some o
  | none => pInD n d e
theorem de_in2 {k : Nat} (hr : Room k X.A) (ha : DE X W a f1) (hb : DE X W b f2) (hm : behindInMarks .In b = false := by rfl) : DE X W (.Compare a [.In] [b] pos) (sP2 (pIn2 id) f1 f2) := de_cmp ((op_in_str.or (op_inD hr.units)).or (op_din (by have := hr.units; omega))) (p2_in.or p2_inD) ha hb hm
theorem de_notin2 {k : Nat} (hr : Room k X.A) (ha : DE X W a f1) (hb : DE X W b f2) (hm : behindInMarks .NotIn b = false := by rfl) : DE X W (.Compare a [.NotIn] [b] pos) (sP2 (pIn2 not) f1 f2) := de_cmp ((op_notin_str.or (op_notInD hr.units)).or (op_dnotin (by have := hr.units; omega))) (p2_in.or p2_inD) ha hb hm
theorem dt_in2 {k : Nat} (hr : Room k X.A) (ha : DE X W a f1) (hb : DE X W b f2) (hm : behindInMarks .In b = false := by rfl) : DT X W (.Compare a [.In] [b] pos) (sTest (sP2 (pIn2 id) f1 f2)) := dt_cmp ((op_in_str.or (op_inD hr.units)).or (op_din (by have := hr.units; omega))) (p2_in.or p2_inD) ha hb hm
theorem dt_notin2 {k : Nat} (hr : Room k X.A) (ha : DE X W a f1) (hb : DE X W b f2) (hm : behindInMarks .NotIn b = false := by rfl) : DT X W (.Compare a [.NotIn] [b] pos) (sTest (sP2 (pIn2 not) f1 f2)) := dt_cmp ((op_notin_str.or (op_notInD hr.units)).or (op_dnotin (by have := hr.units; omega))) (p2_in.or p2_inD) ha hb hm
end
end Py
end L2

namespace L2
namespace Py
open PySem PySem.Spec PyProof.Rows
/-! ### d.get(k), d.get(k, x) -/
def dctO (o : Op) : En → Res Unit := fun ρ => match rd ρ o with
  | some (.dict ds) => if nestD ds = true then .bad else .ok () ρ
  | _ => .bad
def pGet : PyData → PyData → PyData → Option Op
  | .dict ds, k, x => if nestD ds = true then none else (keyOf k).map fun _ => .v ((lookD ds k).getD x)
  | _, _, _ => none
def sGet1 (f0 f1 : En → Res Op) : En → Res Op := bnd f0 fun o0 => bnd (dctO o0) fun _ => bnd f1 fun o1 => bnd (rdd o0) fun d0 => bnd (rdd o1) fun k => opt (pGet d0 k .none)
def sGet2 (f0 f1 f2 : En → Res Op) : En → Res Op := bnd f0 fun o0 => bnd (dctO o0) fun _ => bnd f1 fun o1 => bnd f2 fun o2 => bnd (fz o2) fun x => bnd (rdd o0) fun d0 => bnd (rdd o1) fun k => opt (pGet d0 k x)
section
variable {X : Cx} {W : XW} {pos : Pos} {o a b : Expr} {f0 f1 f2 : En → Res Op}
theorem post_dct {K : PySem.W.Frag} {W : XW} {β : Type} {σ : St} {ρ : En} {F H H0 : Hp} {v : V} {o : Op} {k : Unit → En → Res β} {Z : β → En → Hp → Hp → Prop} (E : EnvR K F H σ ρ) (r : OdR K H0 F H σ v o) (h : Post K W σ ρ F H (bnd (dctO o) k ρ) Z) : (∃ a, v = .ref a ∧ IsD H a) ∧ Post K W σ ρ F H (k () ρ) Z := by
  unfold bnd dctO at h
  cases e : rd ρ o with
  | none => simp only [e] at h; exact h.elim
  | some d =>
    cases d with
    | dict ds =>
      simp only [e] at h
      cases nd : nestD ds with
      | true => rw [nd, if_pos rfl] at h; exact h.elim
      | false =>
      rw [nd, if_neg Bool.false_ne_true] at h
      obtain ⟨a, kvs, rfl, hH, _⟩ := (r.rd1 E e).flat nd
      exact ⟨⟨a, rfl, .inl ⟨kvs, hH⟩⟩, h⟩
    | _ => simp only [e] at h; exact h.elim
theorem get_fin {K : PySem.W.Frag} {F H : Hp} {y z : V} {a : Addr} {d0 k x : PyData} {r : Op} {Q : VK} (le : Same F H) (r0 : Rd1 K F H (.ref a) d0) (r1 : Rd1 K F H y k) (rz : Rp K F z x) (e : pGet d0 k x = some r) (g : Gives K F H r Q) : ∃ o, DGet H a y o ∧ Q (o.getD z) H := by
  unfold pGet at e
  split at e
  · rename_i ds
    split at e
    · cases e
    rename_i nd
    cases hk : keyOf k with
    | none => rw [hk] at e; cases e
    | some kk =>
      rw [hk] at e
      cases e
      have ee := keyD_of hk
      subst ee
      obtain ⟨a', kvs, ea, hH, rk⟩ := r0.flat (by simpa using nd)
      cases ea
      rw [rd1_key r1 hk]
      refine ⟨valV kvs kk, .inl ⟨kvs, kk, hH, rfl, rfl⟩, ?_⟩
      cases hl : lookD ds (keyD kk) with
      | none =>
        rw [hl] at g
        rw [(rk.look kk).2 hl]
        exact gives_v le rz g
      | some d' =>
        rw [hl] at g
        obtain ⟨v, hv, rv⟩ := (rk.look kk).1 d' hl
        rw [hv]
        exact gives_v le rv g
  · cases e
theorem de_get1 {k : Nat} {apos : Pos} (hr : Room k X.A) (ho : DE X W o f0) (ha : DE X W a f1)
    (h1 : attributeBase o "get" X.env (eval o X.env) = eval o X.env := by rfl)
    (h2 : ((backTo pos (starEach [a] X.env)).all (fun x => !x.1) && (backToKw pos (keywordEach [] X.env)).all (fun x => x.1.isSome)
      && decide (([a] : List Expr).length + ([] : List Keyword).length + (if ([] : List Keyword).isEmpty then 0 else 1) < 30)) = true := by rfl)
    (h3 : (apos.endLine == pos.line) = true := by rfl) (h4 : backTo pos (starEach [a] X.env) = [(false, eval a X.env)] := by rfl) : DE X W (.Call (.Attribute o "get" apos) [a] [] pos) (sGet1 f0 f1) := by
  obtain ⟨t0, p0, s0⟩ := ho.ex
  obtain ⟨t1, p1, s1⟩ := ha.ex
  refine ⟨_, pe_dget1 (by have := hr.units; omega) p0 p1 ⟨h1, h2, h3, h4⟩, fun σ F H ρ Q E h => s0 σ F H ρ _ E (h.split.imp fun o0 ρ1 F1 H1 _ g1 h1 v0 r0 => ?_)⟩
  obtain ⟨⟨a', rfl, isd⟩, h1⟩ := post_dct g1.env r0 h1
  refine ⟨a', rfl, isd, s1 σ F1 H1 ρ1 _ g1.env (h1.split.imp fun o1 ρ2 F2 H2 _ g2 h2 v1 r1 => ?_)⟩
  obtain ⟨d0, e0, h3⟩ := post_rdd g2.env h2
  obtain ⟨k, e1, h4⟩ := post_rdd g2.env h3
  obtain ⟨r, e2, gv⟩ := post_opt g2.env (g1.trans g2).go.evo.dom h4
  exact get_fin g2.env.le ((r0.go E g1 g2).rd1 g2.env e0) ((r1.early g1.go.evo.dom).rd1 g2.env e1) .non e2 gv
theorem de_get2 {k : Nat} {apos : Pos} (hr : Room k X.A) (ho : DE X W o f0) (ha : DE X W a f1) (hb : DE X W b f2)
    (h1 : attributeBase o "get" X.env (eval o X.env) = eval o X.env := by rfl)
    (h2 : ((backTo pos (starEach [a, b] X.env)).all (fun x => !x.1) && (backToKw pos (keywordEach [] X.env)).all (fun x => x.1.isSome)
      && decide (([a, b] : List Expr).length + ([] : List Keyword).length + (if ([] : List Keyword).isEmpty then 0 else 1) < 30)) = true := by rfl)
    (h3 : (apos.endLine == pos.line) = true := by rfl) (h4 : backTo pos (starEach [a, b] X.env) = [(false, eval a X.env), (false, eval b X.env)] := by rfl) : DE X W (.Call (.Attribute o "get" apos) [a, b] [] pos) (sGet2 f0 f1 f2) := by
  obtain ⟨t0, p0, s0⟩ := ho.ex
  obtain ⟨t1, p1, s1⟩ := ha.ex
  obtain ⟨t2, p2, s2⟩ := hb.ex
  refine ⟨_, pe_dget2 (by have := hr.units; omega) p0 p1 p2 ⟨h1, h2, h3, h4⟩, fun σ F H ρ Q E h => s0 σ F H ρ _ E (h.split.imp fun o0 ρ1 F1 H1 _ g1 h1 v0 r0 => ?_)⟩
  obtain ⟨⟨a', rfl, isd⟩, h1⟩ := post_dct g1.env r0 h1
  refine ⟨a', rfl, isd, s1 σ F1 H1 ρ1 _ g1.env (h1.split.imp fun o1 ρ2 F2 H2 _ g2 h2 v1 r1 => ?_)⟩
  refine s2 σ F2 H2 ρ2 _ g2.env (h2.fst fun o2 ρ3 F3 H3 _ g3 h3 v2 r2 => ?_)
  cases q : fz o2 ρ3 with
  | bad => unfold bnd at h3; simp only [q] at h3; exact h3.elim
  | exc c r => exact absurd q fz_noexc
  | ok x ρ4 =>
    unfold bnd at h3
    simp only [q] at h3
    obtain ⟨F4, g4, rp, sF, _⟩ := fz_ok g2.env g3 r2 q
    have hle := g4.env.le
    have h4 : Post X.K W σ ρ4 F4 H3 (bnd (rdd o0) (fun d0 => bnd (rdd o1) fun k => opt (pGet d0 k x)) ρ4) (fun o _ F' H' => ∀ v, OdR X.K H F' H' σ v o → Q v H') := h3.at' g4
    obtain ⟨d0, e0, h5⟩ := post_rdd g4.env h4
    obtain ⟨k, e1, h6⟩ := post_rdd g4.env h5
    obtain ⟨r, e2, gv⟩ := post_opt g4.env (g1.trans (g2.trans g4)).go.evo.dom h6
    exact get_fin hle ((r0.go E g1 (g2.trans g4)).rd1 g4.env e0) (((r1.go g1.env g2 g4).early g1.go.evo.dom).rd1 g4.env e1) rp e2 gv
end
/-! ### d[k] = v -/
def pD (p : List (PyData × PyData) → Option (List (PyData × PyData))) (ds : List (PyData × PyData)) : Option (List (PyData × PyData)) := if nestD ds = true then none else p ds
theorem pD_ok {p : List (PyData × PyData) → Option (List (PyData × PyData))} {ds ds' : List (PyData × PyData)} (h : pD p ds = some ds') : nestD ds = false ∧ p ds = some ds' := by
  unfold pD at h
  split at h
  · cases h
  · rename_i nd; exact ⟨by simpa using nd, h⟩
theorem Ob.flat {K : PySem.W.Frag} {F H : Hp} {a : Addr} {ds : List (PyData × PyData)} (h : Ob K F H a (.dict ds)) (n : nestD ds = false) : ∃ kvs, H a = some (.dK kvs) ∧ F a = none ∧ RpK K F kvs ds := by
  rcases h with h | ⟨_, _, _, r, z⟩
  · exact h
  · rw [r.nest z] at n; cases n
def mutD (j : Nat) (p : List (PyData × PyData) → Option (List (PyData × PyData))) : En → Res Unit := fun ρ => match ρ[j]? with
  | some (.own (.dict ds)) => (match pD p ds with
    | some ds' => .ok () (ρ.set j (.own (.dict ds')))
    | none => .bad)
  | some (.inn (.dict ds)) => (match pD p ds with
    | some ds' => .ok () (ρ.set j (.inn (.dict ds')))
    | none => .bad)
  | _ => .bad
theorem mutD_ok {K : PySem.W.Frag} {σ : St} {ρ ρ' : En} {F H : Hp} {j : Nat} {p : List (PyData × PyData) → Option (List (PyData × PyData))} (E : EnvR K F H σ ρ) (h : mutD j p ρ = .ok () ρ') :
    ∃ a kvs ds ds', σ[j]? = some (some (.ref a)) ∧ H a = some (.dK kvs) ∧ RpK K F kvs ds ∧ p ds = some ds' ∧ ∀ kvs', RpK K F kvs' ds' → GoE K σ ρ F H ρ' F (upd H a (.dK kvs')) := by
  unfold mutD at h
  cases q : ρ[j]? with
  | none => simp only [q] at h; cases h
  | some s =>
    simp only [q] at h
    obtain ⟨o, e1, e2⟩ := E.sl j s q
    cases s with
    | no => cases h
    | val d => cases h
    | fix d => cases h
    | bor d => cases h
    | own d =>
      cases d with
      | dict ds =>
        obtain ⟨a, rfl, e2⟩ := e2
        cases q2 : pD p ds with
        | none => simp only [q2] at h; cases h
        | some ds' =>
          simp only [q2] at h
          cases h
          obtain ⟨xs, hH, hF, hx⟩ := e2.flat (pD_ok q2).1
          exact ⟨a, xs, ds, ds', e1, hH, hx, (pD_ok q2).2, fun xs' r => goPutO E q (.inl ⟨rfl, rfl⟩) e1 (.inl ⟨xs', upd_same, hF, r⟩)⟩
      | _ => cases h
    | inn d =>
      cases d with
      | dict ds =>
        obtain ⟨a, rfl, e2⟩ := e2
        cases q2 : pD p ds with
        | none => simp only [q2] at h; cases h
        | some ds' =>
          simp only [q2] at h
          cases h
          obtain ⟨xs, hH, hF, hx⟩ := e2.flat (pD_ok q2).1
          exact ⟨a, xs, ds, ds', e1, hH, hx, (pD_ok q2).2, fun xs' r => goPutO E q (.inr ⟨rfl, rfl⟩) e1 (.inl ⟨xs', upd_same, hF, r⟩)⟩
      | _ => cases h
theorem mutD_noexc {j : Nat} {p : List (PyData × PyData) → Option (List (PyData × PyData))} {ρ ρ' : En} {c : Str} : mutD j p ρ ≠ .exc c ρ' := by
  intro h
  unfold mutD at h
  cases q : ρ[j]? with
  | none => simp only [q] at h; cases h
  | some s =>
    simp only [q] at h
    cases s with
    | own d =>
      cases d with
      | dict ds => cases q2 : pD p ds <;> simp only [q2] at h <;> cases h
      | _ => cases h
    | inn d =>
      cases d with
      | dict ds => cases q2 : pD p ds <;> simp only [q2] at h <;> cases h
      | _ => cases h
    | _ => cases h
def putP (k d : PyData) (ds : List (PyData × PyData)) : Option (List (PyData × PyData)) := if (keyOf k).isSome = true ∧ ds.length < sizeLine then some (putD ds k d) else none
/-- slot j has something -/
def sHas (j : Nat) : En → Res Unit := fun ρ => match ρ[j]? with
  | some (.own _) => .ok () ρ
  | some (.inn _) => .ok () ρ
  | _ => .bad
def sSetD (j : Nat) (fi f : En → Res Op) : En → Out := unS (bnd f fun o => bnd (fz o) fun d => bnd (sHas j) fun _ => bnd fi fun oi => bnd (rdd oi) fun k => mutD j (putP k d))
section
variable {X : Cx} {W : XW} {pos : Pos} {i e : Expr} {fi f : En → Res Op}
theorem ds_setD {k : Nat} {o : Expr} {j : Nat} {spos : Pos} (hr : Room k X.A) (ho : PE X o (tVar j)) (hi : DE X W i fi) (he : DE X W e f) (hs : swapsWith e (some (.Subscript o i spos)) pos.line X.env = pure false := by rfl) : DS X W (.Assign [.Subscript o i spos] e pos) (sSetD j fi f) := by
  obtain ⟨te, pe, se⟩ := he.ex
  obtain ⟨ti, pi, si⟩ := hi.ex
  refine ⟨_, ps_dput (by have := hr.units; omega) ho pi pe hs, fun σ F H ρ D E h => se σ F H ρ _ E ?_⟩
  unfold sSetD unS andS bnd at h
  cases e : f ρ with
  | bad => simp only [e] at h; exact h
  | exc c ρ1 => simp only [e] at h; exact fun F1 H1 g => h σ F1 H1 g.go
  | ok oe ρ1 =>
    simp only [e] at h
    intro F1 H1 g1 v r
    cases q : fz oe ρ1 with
    | bad => simp only [bnd, q] at h; exact h.elim
    | exc c ρ2 => exact absurd q fz_noexc
    | ok d ρ2 =>
      simp only [bnd, q] at h
      obtain ⟨F2, g2, rp, _⟩ := fz_ok E g1 r q
      have hv : ∃ w, σ[j]? = some (some w) ∧ sHas j ρ2 = .ok () ρ2 := by
        cases qv : sHas j ρ2 with
        | bad => simp only [qv] at h; exact h.elim
        | exc c ρ3 => unfold sHas at qv; split at qv <;> cases qv
        | ok u ρ3 =>
          unfold sHas at qv
          cases q4 : ρ2[j]? with
          | none => simp only [q4] at qv; cases qv
          | some s =>
            simp only [q4] at qv
            obtain ⟨o, e1, e2⟩ := g2.env.sl j s q4
            cases s with
            | own d => cases qv; obtain ⟨a, rfl, _⟩ := e2; exact ⟨_, e1, rfl⟩
            | inn d => cases qv; obtain ⟨a, rfl, _⟩ := e2; exact ⟨_, e1, rfl⟩
            | _ => cases qv
      obtain ⟨w, hσ, qv⟩ := hv
      simp only [qv] at h
      refine ⟨w, hσ, si σ F2 H1 ρ2 _ g2.env ?_⟩
      cases q3 : fi ρ2 with
      | bad => simp only [q3] at h; exact h
      | exc c ρ3 => simp only [q3] at h; exact fun F3 H3 g3 => h σ F3 H3 (g2.trans g3).go
      | ok oi ρ3 =>
        simp only [q3] at h
        intro F3 H3 g3 vi ri
        unfold rdd at h
        cases q5 : rd ρ3 oi with
        | none => simp only [q5] at h; exact h.elim
        | some k =>
          simp only [q5] at h
          have r1 := ri.rd1 g3.env q5
          cases qm : mutD j (putP k d) ρ3 with
          | bad => simp only [qm] at h; exact h.elim
          | exc c ρ4 => exact absurd qm mutD_noexc
          | ok u ρ4 =>
            simp only [qm] at h
            obtain ⟨a, kvs, ds, ds', e1, hH, hx, hp, hg⟩ := mutD_ok g3.env qm
            rw [hσ] at e1
            cases e1
            unfold putP at hp
            split at hp
            · rename_i hc
              cases hp
              cases hk : keyOf k with
              | none => rw [hk] at hc; cases hc.1
              | some kk =>
                have ek := keyD_of hk
                rw [rd1_key r1 hk]
                have g4 := hg (putK kvs kk v) (by rw [ek]; exact RpK.put (rp.mono g3.go.evo.le) hx)
                exact ⟨a, _, rfl, DPut.k hH (by rw [hx.length]; exact hc.2), h σ F3 _ (g2.trans (g3.trans g4)).go⟩
            · cases hp
end
/-! ### for k in d: d is made fast -/
theorem pe_lk {X : Cx} {e : Expr} {t : TE} (h : PE X e t) : PE X e (fun σ H Q => t σ H fun v H1 => ∃ d u, v = .ref d ∧ H1 d = some u ∧ Mut (some u) ∧ ∀ od, Q v (upd H1 d (.frz od u))) := by
  refine ⟨fun pins s σ H Q I hw => thn (h.run pins s σ H _ I hw) fun w s1 ⟨v, H1, I1, rv, d, u, ev, hd, mu, q⟩ => ?_⟩
  obtain ⟨od, I2⟩ := I1.lock hd mu
  exact ⟨v, _, I2, rv, q od⟩
theorem goFastG {K : PySem.W.Frag} {σ : St} {ρ : En} {F H : Hp} {i : Nat} {s s' : Sl} {ds : PyData} {a : Addr} {xs : HO} (E : EnvR K F H σ ρ) (hi : ρ[i]? = some s) (hs : (s = .own ds ∧ s' = .val ds) ∨ (s = .inn ds ∧ s' = .fix ds)) (h1 : σ[i]? = some (some (.ref a))) (hF : F a = none) (rp : Rp K (upd F a xs) (.ref a) ds) :
    GoE K σ ρ F H (ρ.set i s') (upd F a xs) (upd H a xs) := by
  have hmut : s.mut = true := by rcases hs with ⟨rfl, _⟩ | ⟨rfl, _⟩ <;> rfl
  have sF : Same F (upd F a xs) := same_upd' (H := H) hF
  have hA : ownA σ ρ a := by
    rcases hs with ⟨rfl, _⟩ | ⟨rfl, _⟩
    · exact .inl ⟨i, _, hi, h1⟩
    · exact .inr ⟨i, _, hi, h1⟩
  have ev : Evo (fun b => b = a) F H (upd F a xs) (upd H a xs) := ⟨sF, fun b o q n => by rw [upd_ne n]; exact q, fun b o q n => upd_ne n, fun b o q => by
    by_cases e : b = a
    · subst e; exact ⟨_, upd_same⟩
    · rw [upd_ne e]; exact ⟨o, q⟩⟩
  have get : ∀ (j : Nat) (t : Sl), (ρ.set i s')[j]? = some t → (j = i ∧ t = s') ∨ (j ≠ i ∧ ρ[j]? = some t) := fun j t q => by
    by_cases e : j = i
    · subst e; rw [set_self hi] at q; exact .inl ⟨rfl, (Option.some.inj q).symm⟩
    · rw [List.getElem?_set_ne (Ne.symm e)] at q; exact .inr ⟨e, q⟩
  have put : ∀ (j : Nat) (t : Sl), j ≠ i → ρ[j]? = some t → (ρ.set i s')[j]? = some t := fun j t e q => by
    rw [List.getElem?_set_ne (Ne.symm e)]; exact q
  have np : s'.plc = false ∧ (∃ d, s' = .val d ∨ s' = .fix d) := by rcases hs with ⟨_, rfl⟩ | ⟨_, rfl⟩; exact ⟨rfl, _, .inl rfl⟩; exact ⟨rfl, _, .inr rfl⟩
  refine ⟨⟨ev.weak fun b e => by rw [e]; exact hA, ⟨by rw [List.length_set]; exact E.len, fun b o q => ?_, fun j t q => ?_, fun j k s1 t1 b hjk q1 q2 m1 m2 z1 z2 => ?_⟩, fun b z => ?_, fun j d q => ?_, fun j d q => ?_, fun j d q => ?_, fun j d q => ?_, fun j d q => ?_, List.length_set⟩, fun j d q => ?_⟩
  · by_cases e : b = a
    · subst e; rw [upd_same] at q; rw [upd_same]; exact q
    · rw [upd_ne e] at q; rw [upd_ne e]; exact E.le _ _ q
  · rcases get j t q with ⟨rfl, rfl⟩ | ⟨ne, q⟩
    · refine ⟨_, h1, ?_⟩
      rcases hs with ⟨_, rfl⟩ | ⟨_, rfl⟩
      · exact ⟨_, rfl, rp⟩
      · exact ⟨_, rfl, rp⟩
    · obtain ⟨o, e1, e2⟩ := E.sl j t q
      refine ⟨o, e1, ?_⟩
      have nea : ∀ b, t.plc = true → o = some (.ref b) → b ≠ a := fun b p e z => by
        subst e; subst z
        exact E.inj i j s t b (Ne.symm ne) hi q hmut p h1 e1
      cases t with
      | no => trivial
      | val d => obtain ⟨v, e3, r⟩ := e2; exact ⟨v, e3, r.mono sF⟩
      | fix d => obtain ⟨v, e3, r⟩ := e2; exact ⟨v, e3, r.mono sF⟩
      | own d => obtain ⟨b, e3, r⟩ := e2; exact ⟨b, e3, r.evo ev (nea b rfl e3)⟩
      | inn d => obtain ⟨b, e3, r⟩ := e2; exact ⟨b, e3, r.evo ev (nea b rfl e3)⟩
      | bor d => obtain ⟨b, e3, r⟩ := e2; exact ⟨b, e3, r.evo ev (nea b rfl e3)⟩
  · rcases get j s1 q1 with ⟨rfl, rfl⟩ | ⟨_, q1⟩
    · rw [Sl.plc_of_mut m1] at np; cases np.1
    · rcases get k t1 q2 with ⟨rfl, rfl⟩ | ⟨_, q2⟩
      · rw [m2] at np; cases np.1
      · exact E.inj j k s1 t1 b hjk q1 q2 m1 m2 z1 z2
  · obtain ⟨j, d, q, z⟩ := z
    rcases get j _ q with ⟨rfl, e⟩ | ⟨_, q⟩
    · rw [← e] at np; cases np.1
    · exact .inl ⟨j, d, q, z⟩
  · rcases get j _ q with ⟨rfl, e⟩ | ⟨_, q⟩
    · rw [← e] at np; cases np.1
    · exact ⟨d, q⟩
  · rcases get j _ q with ⟨rfl, e⟩ | ⟨_, q⟩
    · rw [← e] at np; cases np.1
    · exact q
  · by_cases e : j = i
    · subst e
      rcases hs with ⟨rfl, _⟩ | ⟨rfl, rfl⟩
      · rw [hi] at q; cases q
      · exact ⟨rfl, _, .inr (set_self hi)⟩
    · exact ⟨rfl, d, .inl (put j _ e q)⟩
  · by_cases e : j = i
    · subst e
      rw [hi] at q; cases q; cases hmut
    · exact ⟨rfl, put j _ e q⟩
  · by_cases e : j = i
    · subst e
      rw [hi] at q; cases q; cases hmut
    · exact ⟨rfl, put j _ e q⟩
  · rcases get j _ q with ⟨rfl, e⟩ | ⟨_, q⟩
    · rw [← e] at np; cases np.1
    · exact ⟨d, q⟩
/-- own dict of slot i is made fast, its keys walked -/
def itD (o : Op) : En → Res (List PyData × List Op) := fun ρ => match o with
  | .pl i => (match ρ[i]? with
    | some (.own (.dict ds)) => if nestD ds = true then .bad else .ok (ds.map (·.1), []) (ρ.set i (.val (.dict ds)))
    | _ => .bad)
  | _ => .bad
def sKeys (f : En → Res Op) : En → Res (List PyData × List Op) := bnd f itD
theorem itok_keys {K : PySem.W.Frag} {F H : Hp} {a : Addr} {od : Obj} {kvs : List (Key × V)} {ds : List (PyData × PyData)} {A : Addr → Prop} (hF : F a = some (.frz od (.dK kvs))) (r : RpK K F kvs ds) : ItOk K A F H (Itk a od kvs) (ds.map (·.1)) := ⟨fun F2 H2 s1 s2 k => by
  have hH : H2 a = some (.frz od (.dK kvs)) := s2 _ _ (s1 _ _ hF)
  have key : ∀ {kvs : List (Key × V)} {ds : List (PyData × PyData)}, RpK K F kvs ds → ∀ (i : Nat) (kk : Key) (v : V) (d : PyData), kvs[i]? = some (kk, v) → (ds.map (·.1))[i]? = some d → d = keyD kk := by
    intro kvs ds r
    induction kvs generalizing ds with
    | nil => intro i kk v d h1; simp at h1
    | cons kv kvs ih =>
      intro i kk v d h1 h2
      cases r with
      | cons q t =>
        cases i with
        | zero => simp at h1 h2; rw [← h2, h1.1]
        | succ i => exact ih t i kk v d (by simpa using h1) (by simpa using h2)
  refine ⟨⟨hH, by rw [List.length_map, r.length]; exact Nat.le_refl _⟩, fun i d hd => ?_⟩
  have hi : i < ds.length := by have := (List.getElem?_eq_some_iff.mp hd).1; rwa [List.length_map] at this
  refine ⟨⟨hH, by rw [r.length]; exact hi⟩, fun x H3 ⟨e, kk, v, hk, ex⟩ => ?_⟩
  subst e ex
  rw [key r i kk v d hk hd]
  refine ⟨F2, Evo.refl, s2, ?_⟩
  cases kk with
  | inl i => exact .int i
  | inr x => exact .str x⟩
theorem di_keys {X : Cx} {W : XW} {tg l : Expr} {f : En → Res Op} (ha : DE X W l f) : DI X W tg l (sKeys f) := by
  obtain ⟨ta, pa, sa⟩ := ha.ex
  refine ⟨_, pi_keys (pe_lk pa), fun σ F H ρ R E h => sa σ F H ρ _ E (h.fst fun o ρ1 F1 H1 eq g1 h1 v r => ?_)⟩
  cases o with
  | v d => exact h1.elim
  | fr d => exact h1.elim
  | pl i =>
    have r : σ[i]? = some (some v) := r
    unfold itD at h1
    cases q : ρ1[i]? with
    | none => simp only [q] at h1; exact h1.elim
    | some s =>
      simp only [q] at h1
      obtain ⟨w, e1, e2⟩ := g1.env.sl i s q
      rw [r] at e1; cases e1
      cases s with
      | own d =>
        cases d with
        | dict ds =>
          obtain ⟨a, e3, e2⟩ := e2
          cases e3
          cases nd : nestD ds with
          | true => simp only [nd, if_true] at h1; exact h1.elim
          | false =>
          simp only [nd, Bool.false_eq_true, if_false] at h1
          obtain ⟨kvs, hH, hF, rk⟩ := e2.flat nd
          refine ⟨a, _, rfl, hH, trivial, fun od => ⟨a, od, rfl, .inl ⟨kvs, upd_same, ?_⟩⟩⟩
          have sF : Same F1 (upd F1 a (.frz od (.dK kvs))) := same_upd' (H := H1) hF
          have g2 := goFastG (xs := .frz od (.dK kvs)) g1.env q (.inl ⟨rfl, rfl⟩) r hF (.dic (.inr ⟨od, upd_same⟩) (rk.mono sF))
          exact h1 _ _ (g1.trans g2) (Itk a od kvs) (fun _ => False) [] trivial (fun _ m => nomatch m) (fun _ z => z.elim) (itok_keys upd_same (rk.mono sF))
        | _ => exact h1.elim
      | _ => exact h1.elim
/-! ### sorted(xs, reverse=True) -/
open PySem.W in
def sortDR (ds : List PyData) : List PyData := ds.mergeSort (dataLe true id)
def rSortDR (K : PySem.W.Frag) : List V → List V → Hp → VK → Prop := fun vs zs H Q => zs = [.bl true] ∧ ∃ (F : Hp) (a : Addr) (xs : List V) (ds : List PyData), Same F H ∧ vs = [.ref a] ∧ SqL K H a xs ∧ RpL K F xs ds ∧ okS ds = true ∧ ∀ ys p, ys.length = xs.length → RpL K F ys (sortDR ds) → H p = none → Q (.ref p) (upd H p (.lst ys))
open PySem.W in
theorem cr_sortDR {X : Cx} (hu : X.A.units + 64 < cLine) : CallRK X (.builtin "sorted") [Str.ofString "reverse"] (rSortDR X.K) := by
  intro pins s σ H vs zs us ws Q I r rz h
  obtain ⟨rfl, F, a, xs, ds, le, rfl, hs, rx, ok, q⟩ := h
  obtain ⟨k1, k2, k3⟩ := okS_iff ok
  obtain ⟨its, rv, hl, hz⟩ := I.list hs
  obtain ⟨u, rfl, ru⟩ := vals1 r
  obtain rfl : u = Value.ref a := ru
  obtain ⟨w1, rfl, e1⟩ := vals1 rz
  obtain rfl : w1 = Value.bool true := e1
  have e1 := each_of rv rx
  have e2 := each_reads I le e1
  refine sorted_rev_data (b := true) (bs := ds) (enc := id) (R := fun (u : Value) (d : PyData) => ∃ y, RelV y u ∧ Rp X.K F y d) hl.isList e1 e2 (by rw [List.map_id]; exact k1) (by rw [List.map_id]; exact k2) (by rw [← rx.length]; exact hz) (fun b hb => ?_) fun out hlen eo => ?_
  · have := depthAll_mem hb
    show X.A.units + 2 + b.depth < cLine
    omega
  · obtain ⟨ys, h1, h2⟩ := each_back eo
    obtain ⟨e, he⟩ := sortedAll_at s.heap its out.toArray
    have hyl : ys.length = xs.length := by rw [h1.length, hlen, rx.length]
    refine ⟨.ref (s.heap.objs.size + 1), upd H (s.heap.objs.size + 1) (.lst ys), I.laid (t' := s.toks) (fun _ _ => sortedAll_old) (Nat.le_succ _) ⟨?_, out, e, h1, he⟩, rfl, q ys _ hyl h2 (I.hok.fresh (Nat.le_succ _))⟩
    rw [hyl]; exact hz
def pSortedR : List PyData → Option Op
  | [.list ds] => if okS ds = true then some (.fr (.list (sortDR ds))) else none
  | _ => none
theorem pn_sortedR {K : PySem.W.Frag} : PN K (fun vs H Q => rSortDR K vs [.bl true] H Q) pSortedR := by
  intro F H xs ds o Q le rs ho q
  unfold pSortedR at ho
  split at ho
  · split at ho
    · rename_i ds hk
      cases ho
      obtain ⟨v, rfl, a, ys, rfl, h1, r1⟩ := rds1 rs
      exact ⟨rfl, F, a, ys, ds, le, rfl, h1, r1, hk, fun zs p hl r hp => gives_lst le r hp q⟩
    · cases ho
  · cases ho
section
variable {X : Cx} {W : XW} {pos : Pos} {e : Expr} {g : En → Res (List Op)}
theorem de_sortedR {k j : Nat} {p kp kp2 : Pos} (hr : Room k X.A) (hg : Gl X "sorted") (hm : X.mg "sorted" = none) (ha : DA X W [e] g)
    (he : backTo pos (starEach [e] X.env) = (false, eval e X.env) :: backTo pos (starEach [] X.env) := by rfl) (hpl : (backTo pos (starEach [e] X.env)).any (·.1) = false := by rfl)
    (hall : (backToKw pos (keywordEach [⟨some "reverse", .Constant (.bool true) j kp2, kp⟩] X.env)).all (·.1.isSome) = true := by rfl) (hnone : (backToKw pos (keywordEach [⟨some "reverse", .Constant (.bool true) j kp2, kp⟩] X.env)).any (·.1.isNone) = false := by rfl) (hks : (backToKw pos (keywordEach [⟨some "reverse", .Constant (.bool true) j kp2, kp⟩] X.env)).filterMap (·.1) = [Str.ofString "reverse"] := by rfl) :
    DE X W (.Call (.Name "sorted" p) [e] [⟨some "reverse", .Constant (.bool true) j kp2, kp⟩] pos) (sPN pSortedR g) := by
  obtain ⟨ta, pa, sa⟩ := ha.ex
  refine ⟨_, pe_callBK (cr_sortDR hr.units) hg hm (by decide +kernel) pa (pk_cons pe_bl pk_nil) (by decide) (by decide) he hpl hall hnone hks, fun σ F H ρ Q E h => sa σ F H ρ _ E (h.split.imp fun os ρ1 F1 H1 _ g1 h1 vs ods => ?_)⟩
  rcases rdds_ok g1.env ods.all with ⟨ds, e1, rs⟩ | e1
  · unfold bnd at h1
    simp only [e1] at h1
    obtain ⟨o, e3, gv⟩ := post_opt g1.env g1.go.evo.dom h1
    exact pn_sortedR F1 H1 vs ds o Q g1.env.le rs e3 gv
  · unfold bnd at h1
    simp only [e1] at h1
    exact h1.elim
end
/-! ### list(d) -/
def pLstOf2 : List PyData → Option Op
  | [.list ds] => some (.fr (.list ds))
  | [.tuple ds] => some (.fr (.list ds))
  | [.dict ds] => if nestD ds = true then none else some (.fr (.list (ds.map (·.1))))
  | _ => none
theorem RpK.keys {K : PySem.W.Frag} {F : Hp} : ∀ {kvs : List (Key × V)} {ds : List (PyData × PyData)}, RpK K F kvs ds → RpL K F (kvs.map fun kv => kV kv.1) (ds.map (·.1))
  | _, _, .nil => .nil
  | _, _, @RpK.cons _ _ k v kvs d ds r t => by
    refine .cons ?_ t.keys
    cases k with
    | inl i => exact .int i
    | inr x => exact .str x
theorem pn_lstOf2 {K : PySem.W.Frag} : PN K (fun xs H Q => (∃ p ys, xs = [.ref p] ∧ (SqL K H p ys ∨ SqT K H p ys) ∧ ∀ l, H l = none → Q (.ref l) (upd H l (.lst ys))) ∨ (∃ (a : Addr) (kvs : List (Key × V)), xs = [.ref a] ∧ Rd H a (.dK kvs) ∧ ∀ p, H p = none → Q (.ref p) (upd H p (.lst (kvs.map fun kv => kV kv.1))))) pLstOf2 := by
  intro F H xs ds o Q le rs ho q
  unfold pLstOf2 at ho
  split at ho
  · cases ho
    obtain ⟨v, rfl, a, ys, rfl, h1, r1⟩ := rds1 rs
    exact .inl ⟨a, ys, rfl, .inl h1, fun l hl => gives_lst le r1 hl q⟩
  · cases ho
    obtain ⟨v, rfl, a, ys, rfl, h1, r1⟩ := rds1 rs
    exact .inl ⟨a, ys, rfl, .inr (same_sqT le h1.sq), fun l hl => gives_lst le r1 hl q⟩
  · split at ho
    · cases ho
    rename_i nd
    cases ho
    obtain ⟨v, rfl, r0⟩ := rds1 rs
    obtain ⟨a, kvs, rfl, h1, r1⟩ := r0.flat (by simpa using nd)
    exact .inr ⟨a, kvs, rfl, h1, fun p hp => gives_lst le r1.keys hp q⟩
  · cases ho
end Py
end L2

namespace L2
namespace Py
open PySem PySem.Spec PyProof.Rows
/-! ## defs that hand back a new tuple with new things in it -/
abbrev Cs := List (Bool × PyData)
theorem cm_all {K : PySem.W.Frag} {N : Addr → Prop} {F H : Hp} : ∀ {vs : List V} {ds : List PyData}, RpL K F vs ds → CmL K N F H vs (ds.map fun d => (false, d))
  | _, _, .nil => trivial
  | _, _, .cons r t => ⟨r, cm_all t⟩
theorem ow_all : ∀ {vs : List V} {ds : List PyData}, owV vs (ds.map fun d => (false, d)) = []
  | [], [] => rfl
  | [], _ :: _ => rfl
  | _ :: _, [] => rfl
  | _ :: vs, _ :: ds => ow_all (vs := vs) (ds := ds)
theorem Cm1.evo {K : PySem.W.Frag} {N : Addr → Prop} {F H F' H' : Hp} {A : Addr → Prop} (e : Evo A F H F' H') {v : V} : ∀ {c : Bool × PyData}, (∀ b, v = .ref b → c.1 = true → ¬ A b) → Cm1 K N F H v c → Cm1 K N F' H' v c
  | (true, _), h, ⟨b, ev, n, ob⟩ => ⟨b, ev, n, ob.evo e (h b ev rfl)⟩
  | (false, _), _, r => Rp.mono e.le r
theorem CmL.evo {K : PySem.W.Frag} {N : Addr → Prop} {F H F' H' : Hp} {A : Addr → Prop} (e : Evo A F H F' H') : ∀ {vs : List V} {cs : Cs}, (∀ b, V.ref b ∈ owV vs cs → ¬ A b) → CmL K N F H vs cs → CmL K N F' H' vs cs
  | [], [], _, _ => trivial
  | v :: vs, (true, d) :: cs, h, z => ⟨z.1.evo e fun b ev _ => h b (by rw [← ev]; exact List.mem_cons_self), z.2.evo e fun b m => h b (List.mem_cons_of_mem _ m)⟩
  | v :: vs, (false, d) :: cs, h, z => ⟨z.1.evo e (fun b ev t => nomatch t), z.2.evo e fun b m => h b m⟩
theorem CmL.own {K : PySem.W.Frag} {N : Addr → Prop} {F H : Hp} : ∀ {vs : List V} {cs : Cs} {v : V}, CmL K N F H vs cs → v ∈ owV vs cs → ∃ b d, v = .ref b ∧ N b ∧ Ob K F H b d
  | _ :: _, (true, d) :: _, v, z, m => by
    rcases List.mem_cons.mp m with e | m
    · obtain ⟨b, e2, n, ob⟩ := z.1; exact ⟨b, d, e.trans e2, n, ob⟩
    · exact z.2.own m
  | _ :: _, (false, _) :: _, v, z, m => z.2.own (v := v) m
/-- what the operands of a display hand over -/
def rtC : List Op → En → Option (Cs × En)
  | [], ρ => some ([], ρ)
  | .v d :: os, ρ => (rtC os ρ).map fun p => ((false, d) :: p.1, p.2)
  | .fr d :: os, ρ => (rtC os ρ).map fun p => ((true, d) :: p.1, p.2)
  | .pl i :: os, ρ => match ρ[i]? with
    | some (.own d) => (rtC os (ρ.set i .no)).map fun p => ((true, d) :: p.1, p.2)
    | some (.val d) => (rtC os ρ).map fun p => ((false, d) :: p.1, p.2)
    | some (.fix d) => (rtC os ρ).map fun p => ((false, d) :: p.1, p.2)
    | _ => none
theorem rtC_ok {K : PySem.W.Frag} {σ : St} {ρ0 : En} {F0 H0 F H : Hp} (E0 : EnvR K F0 H0 σ ρ0) : ∀ {os : List Op} {vs : List V} {cs : Cs} {ρ ρ' : En}, GoE K σ ρ0 F0 H0 ρ F H → OdsA K H0 F H σ vs os → (frV vs os).Nodup → rtC os ρ = some (cs, ρ') →
    GoE K σ ρ0 F0 H0 ρ' F H ∧ CmL K (fun b => H0 b = none ∨ own1 σ ρ0 b) F H vs cs ∧ (owV vs cs).Nodup ∧ ∀ v ∈ owV vs cs, v ∈ frV vs os ∨ ∃ (b : Addr) (i : Nat) (d : PyData), v = .ref b ∧ ρ[i]? = some (.own d) ∧ σ[i]? = some (some (.ref b))
  | [], [], cs, ρ, ρ', g, _, _, e => by cases e; exact ⟨g, trivial, .nil, fun _ m => nomatch m⟩
  | [], _ :: _, cs, ρ, ρ', g, h, _, e => h.elim
  | _ :: _, [], cs, ρ, ρ', g, h, _, e => h.elim
  | .v d :: os, v :: vs, cs, ρ, ρ', g, h, nd, e => by
    rw [rtC] at e
    cases q : rtC os ρ with
    | none => rw [q] at e; cases e
    | some p =>
      rw [q] at e; cases e
      obtain ⟨g2, c, n, m⟩ := rtC_ok E0 g h.2 nd q
      exact ⟨g2, ⟨h.1, c⟩, n, m⟩
  | .fr d :: os, v :: vs, cs, ρ, ρ', g, h, nd, e => by
    rw [rtC] at e
    cases q : rtC os ρ with
    | none => rw [q] at e; cases e
    | some p =>
      rw [q] at e; cases e
      obtain ⟨n1, n2⟩ := List.nodup_cons.mp nd
      obtain ⟨g2, c, n, m⟩ := rtC_ok E0 g h.2 n2 q
      obtain ⟨a, ev, na, ob⟩ := h.1
      refine ⟨g2, ⟨⟨a, ev, .inl na, ob⟩, c⟩, List.nodup_cons.mpr ⟨fun z => ?_, n⟩, fun w mw => ?_⟩
      · rcases m v z with z | ⟨b, i, d', e1, e2, e3⟩
        · exact n1 z
        · rw [ev] at e1; cases e1
          obtain ⟨o, ho⟩ := own_there E0 (g.ownA (.inl ⟨i, d', e2, e3⟩))
          rw [na] at ho; cases ho
      · rcases List.mem_cons.mp mw with z | z
        · rw [z]; exact .inl List.mem_cons_self
        · rcases m w z with z | z
          · exact .inl (List.mem_cons_of_mem _ z)
          · exact .inr z
  | .pl i :: os, v :: vs, cs, ρ, ρ', g, h, nd, e => by
    rw [rtC] at e
    have h1 : σ[i]? = some (some v) := h.1
    cases qs : ρ[i]? with
    | none => rw [qs] at e; cases e
    | some s =>
      rw [qs] at e
      obtain ⟨o, e1, e2⟩ := g.env.sl i s qs
      rw [h1] at e1; cases e1
      cases s with
      | no => cases e
      | inn d => cases e
      | bor d => cases e
      | val d =>
        simp only at e
        cases q : rtC os ρ with
        | none => rw [q] at e; cases e
        | some p =>
          rw [q] at e; cases e
          obtain ⟨g2, c, n, m⟩ := rtC_ok E0 g h.2 nd q
          obtain ⟨w, e3, r⟩ := e2
          cases e3
          exact ⟨g2, ⟨r, c⟩, n, m⟩
      | fix d =>
        simp only at e
        cases q : rtC os ρ with
        | none => rw [q] at e; cases e
        | some p =>
          rw [q] at e; cases e
          obtain ⟨g2, c, n, m⟩ := rtC_ok E0 g h.2 nd q
          obtain ⟨w, e3, r⟩ := e2
          cases e3
          exact ⟨g2, ⟨r, c⟩, n, m⟩
      | own d =>
        simp only at e
        cases q : rtC os (ρ.set i .no) with
        | none => rw [q] at e; cases e
        | some p =>
          rw [q] at e; cases e
          obtain ⟨g2, c, n, m⟩ := rtC_ok E0 (g.trans (goDrop g.env qs)) h.2 nd q
          obtain ⟨b, e3, ob⟩ := e2
          cases e3
          obtain ⟨d0, q0⟩ := g.ow i d qs
          refine ⟨g2, ⟨⟨b, rfl, .inr ⟨i, d0, q0, h1⟩, ob⟩, c⟩, List.nodup_cons.mpr ⟨fun z => ?_, n⟩, fun w mw => ?_⟩
          · rcases m _ z with z | ⟨b', j, d', e4, e5, e6⟩
            · obtain ⟨b', e4, n4⟩ := h.2.new z
              cases e4
              obtain ⟨o, ho⟩ := own_there E0 (.inl ⟨i, d0, q0, h1⟩)
              rw [n4] at ho; cases ho
            · cases e4
              by_cases eij : j = i
              · subst eij; rw [set_self qs] at e5; cases e5
              · rw [List.getElem?_set_ne (Ne.symm eij)] at e5
                exact g.env.inj i j _ _ b (Ne.symm eij) qs e5 rfl rfl h1 e6
          · rcases List.mem_cons.mp mw with z | z
            · rw [z]; exact .inr ⟨b, i, d, rfl, qs, h1⟩
            · rcases m w z with z | ⟨b', j, d', e4, e5, e6⟩
              · exact .inl z
              · refine .inr ⟨b', j, d', e4, ?_, e6⟩
                by_cases eij : j = i
                · subst eij; rw [set_self qs] at e5; cases e5
                · rw [List.getElem?_set_ne (Ne.symm eij)] at e5; exact e5
def sRetT (gs : En → Res (List Op)) : En → Out := andS gs fun os ρ => match rtC os ρ with
  | some (cs, ρ') => .rd cs ρ'
  | none => .bad
section
variable {X : Cx} {W : XW} {pos : Pos} {es : List Expr} {gs : En → Res (List Op)}
theorem ds_retT {x1 : Nat} {tpos : Pos} (hg : DA X W es gs) (hl : es.length ≤ 1000 := by decide) : DS X W (.Return (some (.Tuple es x1 tpos)) pos) (sRetT gs) := by
  obtain ⟨ta, pa, sa⟩ := hg.ex
  refine ⟨_, ps_ret (pe_tupF pa), fun σ F H ρ D E h => sa σ F H ρ _ E (h.expr fun os ρ1 F1 H1 eq g1 h1 vs ods => ?_)⟩
  cases q : rtC os ρ1 with
  | none => simp only [q] at h1; exact h1.elim
  | some p =>
    obtain ⟨cs, ρ2⟩ := p
    simp only [q] at h1
    obtain ⟨g2, c, n, m⟩ := rtC_ok E g1 ods.all ods.nd q
    refine ⟨by rw [ods.all.len, hg.len _ _ _ eq]; exact Nat.le_of_lt (small1000 hl), fun p ob hp hd => ?_⟩
    have g3 := GoE.layF g2.env hp (.frz ob (.tup vs))
    have ev : Evo (fun a => H1 a = none) F1 H1 (upd F1 p (.frz ob (.tup vs))) (upd H1 p (.frz ob (.tup vs))) := ⟨g3.go.evo.le, fun a o q z => by rw [upd_ne (ne_of_none q hp)]; exact q, fun a o q z => by rw [upd_ne (ne_of_none q hp)], g3.go.evo.dom⟩
    refine h1 (.ref p) σ _ _ (g2.trans g3).go ⟨p, vs, rfl, sqP_frz upd_same hd, c.evo ev (fun b mb z => ?_), n⟩
    obtain ⟨b', d, e1, _, ob⟩ := c.own mb
    cases e1
    obtain ⟨o, ho⟩ := ob.there
    rw [ho] at z; cases z
end
/-! ### their promise -/
def runFD (n : Nat) (b : En → Out) : En → Res Cs := fun args => match b (args ++ List.replicate (n - args.length) .no) with
  | .rd cs ρ => .ok cs (zq70 args ρ)
  | .rt (.v (.tuple ds)) ρ => .ok (ds.map fun d => (false, d)) (zq70 args ρ)
  | _ => .bad
def spFD (K : PySem.W.Frag) (n : Nat) (fs : En → Res Cs) : Sp := fun vs H Q _ => ∃ F ps, vs.length = n ∧ EnvR K F H (vs.map some) ps ∧ (∀ s ∈ ps, s.arg = true) ∧ match fs ps with
  | .ok r outs => ∀ v F' H', Evo (ownA (vs.map some) ps) F H F' H' → EnvR K F' H' (vs.map some) outs → OutsOk ps outs → RdR K (fun b => H b = none) F' H' v r → Q v H'
  | _ => False
theorem fn_soundD {P : Program} {w : World} {K : PySem.W.Frag} {mg : Str → Option Value} {base : Heap} {x qual : Str} {st : Stmt} {f : Addr} {fd : FuncData} {N ps : List Str} {k : Nat} {b : En → Out} (F : Fun K x qual st f fd) (S : FnScope N ps (defScope st)) (hNp : ps.length ≤ N.length)
    (hbody : ∀ (cdv : Value) (A : Around) (outer : List Env) (s : Shared) (H : Hp) (E : XK), Room k (A.deeper (envOfC qual (defScope st) s.heap.objs.size f cdv)) → DSs (cxOf CX0 P w K mg base N qual (defScope st) f cdv A outer s H E).nox noX (defBody st) b) :
    FnOk P w K mg base CX0 (k + 1) f fd ps (spFD K ps.length (runFD N.length b)) := by
  refine F.ok S (fun vs H Q E h => ?_) (fun cdv A outer s H vs Q E hr h => ?_)
  · obtain ⟨_, _, hl, _⟩ := h; exact hl
  · obtain ⟨F, args, hl, Ea, ar, h⟩ := h
    obtain ⟨t, pt, qt⟩ := (hbody cdv A outer s H E hr).ex
    refine ⟨t, pt, ?_⟩
    have hla : vs.length = args.length := by rw [← Ea.len, List.length_map]
    -- the start
    have sget : ∀ (i : Nat) (t : Sl), (args ++ List.replicate (N.length - args.length) Sl.no)[i]? = some t → (args[i]? = some t ∧ (start N vs)[i]? = (vs.map some)[i]?) ∨ t = .no := fun i t h => by
      by_cases hi : i < args.length
      · rw [List.getElem?_append_left hi] at h
        refine .inl ⟨h, ?_⟩
        unfold start
        rw [List.getElem?_append_left (by rw [List.length_map]; omega)]
      · rw [List.getElem?_append_right (by omega)] at h
        have := List.mem_of_getElem? h
        exact .inr (List.eq_of_mem_replicate this)
    have E0 : EnvR K F H (start N vs) (args ++ List.replicate (N.length - args.length) Sl.no) := by
      refine ⟨?_, Ea.le, fun i t h => ?_, fun i j s t a ne h1 h2 m p z1 z2 => ?_⟩
      · unfold start
        rw [List.length_append, List.length_append, List.length_map, List.length_replicate, List.length_replicate, hla]
      · rcases sget i t h with ⟨h1, e⟩ | e
        · obtain ⟨o, h2, h3⟩ := Ea.sl i t h1
          exact ⟨o, e.trans h2, h3⟩
        · subst e
          have hlt := (List.getElem?_eq_some_iff.mp h).1
          have hs : i < (start N vs).length := by
            unfold start
            rw [List.length_append, List.length_map, List.length_replicate, hla]
            rw [List.length_append, List.length_replicate] at hlt
            exact hlt
          exact ⟨_, List.getElem?_eq_getElem hs, trivial⟩
      · rcases sget i s h1 with ⟨a1, e1⟩ | e1
        · rcases sget j t h2 with ⟨a2, e2⟩ | e2
          · rw [e1] at z1; rw [e2] at z2
            exact Ea.inj i j s t a ne a1 a2 m p z1 z2
          · subst e2; cases p
        · subst e1; cases m
    have own0 : ∀ a, own1 (start N vs) (args ++ List.replicate (N.length - args.length) Sl.no) a → False := fun a ⟨i, d, h1, h2⟩ => by
      rcases sget i _ h1 with ⟨a1, _⟩ | e
      · have := ar _ (List.mem_of_getElem? a1); cases this
      · cases e
    have ownEq : ∀ a, ownA (start N vs) (args ++ List.replicate (N.length - args.length) Sl.no) a → ownA (vs.map some) args a := fun a w => by
      rcases w with w | ⟨i, d, h1, h2⟩
      · exact (own0 a w).elim
      · rcases sget i _ h1 with ⟨a1, e⟩ | e
        · rw [e] at h2; exact .inr ⟨i, d, a1, h2⟩
        · cases e
    refine qt (start N vs) F H _ _ E0 ?_
    -- the end
    have fin : ∀ {σ' : St} {ρ' : En} {F' H' : Hp} {r : List (Bool × PyData)} {v : V}, Go K (start N vs) (args ++ List.replicate (N.length - args.length) Sl.no) F H σ' ρ' F' H' → RdR K (fun b => H b = none) F' H' v r → (∀ v F' H', Evo (ownA (vs.map some) args) F H F' H' → EnvR K F' H' (vs.map some) (zq70 args ρ') → OutsOk args (zq70 args ρ') → RdR K (fun b => H b = none) F' H' v r → Q v H') → Q v H' := by
      intro σ' ρ' F' H' r v g rr hq
      have hlr : args.length ≤ ρ'.length := by rw [g.len, List.length_append]; omega
      have slot0 : ∀ (i : Nat) (p : Sl), args[i]? = some p → (args ++ List.replicate (N.length - args.length) Sl.no)[i]? = some p ∧ (start N vs)[i]? = (vs.map some)[i]? := fun i p h => by
        have hi := (List.getElem?_eq_some_iff.mp h).1
        refine ⟨by rw [List.getElem?_append_left hi]; exact h, ?_⟩
        unfold start
        rw [List.getElem?_append_left (by rw [List.length_map]; omega)]
      -- a slot at the end, by its argument
      have look : ∀ (i : Nat) (o : Sl), (zq70 args ρ')[i]? = some o → ∃ p, args[i]? = some p ∧ OutOk p o ∧ ((o.plc = true ∧ ρ'[i]? = some o ∧ σ'[i]? = (vs.map some)[i]?) ∨ o.plc = false) ∧ ∃ w, (vs.map some)[i]? = some w ∧ SltR K F' H' w o := fun i o h => by
        obtain ⟨p, q, h1, h2, h3⟩ := outsOf_get h
        obtain ⟨s1, s2⟩ := slot0 i p h1
        obtain ⟨w0, x1, x2⟩ := Ea.sl i p h1
        refine ⟨p, h1, ?_⟩
        rcases h3 with ⟨d, rfl, rfl⟩ | ⟨np, rfl⟩
        · obtain ⟨e1, d', e2⟩ := g.kin i d s1
          obtain ⟨w1, y1, y2⟩ := g.env.sl i o h2
          rw [e1, s2] at y1
          rcases e2 with e2 | e2
          · rw [h2] at e2; cases e2
            exact ⟨.inl ⟨d', rfl⟩, .inl ⟨rfl, h2, e1.trans s2⟩, w1, y1, y2⟩
          · rw [h2] at e2; cases e2
            exact ⟨.inr ⟨d', rfl⟩, .inr rfl, w1, y1, y2⟩
        · have ao := ar _ (List.mem_of_getElem? h1)
          cases o with
          | no => cases ao
          | own d => cases ao
          | fix d => cases ao
          | inn d => exact absurd rfl (np d)
          | val d =>
            obtain ⟨v, e, r⟩ := x2
            exact ⟨rfl, .inr rfl, w0, x1, v, e, r.mono g.evo.le⟩
          | bor d =>
            obtain ⟨e1, e2⟩ := g.kbo i d s1
            obtain ⟨w1, y1, y2⟩ := g.env.sl i _ e2
            rw [e1, s2] at y1
            exact ⟨rfl, .inl ⟨rfl, e2, e1.trans s2⟩, w1, y1, y2⟩
      refine hq v F' H' (g.evo.weak ownEq) ⟨by rw [outsOf_len hlr, List.length_map, hla], g.env.le, fun i o h => ?_, fun i j s t a ne h1 h2 m p z1 z2 => ?_⟩ ⟨outsOf_len hlr, fun i p o h1 h2 => ?_⟩ rr
      · obtain ⟨p, _, _, _, w, h3, h4⟩ := look i o h
        exact ⟨w, h3, h4⟩
      · obtain ⟨p1, _, _, c1, _⟩ := look i s h1
        obtain ⟨p2, _, _, c2, _⟩ := look j t h2
        rcases c1 with ⟨_, q1, e1⟩ | c1
        · rcases c2 with ⟨_, q2, e2⟩ | c2
          · exact g.env.inj i j s t a ne q1 q2 m p (e1.trans z1) (e2.trans z2)
          · rw [p] at c2; cases c2
        · rw [Sl.plc_of_mut m] at c1; cases c1
      · obtain ⟨p', h3, h4, _⟩ := look i o h2
        rw [h1] at h3; cases h3
        exact h4
    unfold runFD at h
    cases q : b (args ++ List.replicate (N.length - args.length) Sl.no) with
    | bad => simp only [q] at h
    | bk ρ' => simp only [q] at h
    | ct ρ' => simp only [q] at h
    | exc c ρ' => simp only [q] at h
    | nx ρ' => simp only [q] at h
    | rd cs ρ' => simp only [q] at h; exact fun v σ' F' H' g z => fin g (z.imp fun b w => w.elim id fun w => (own0 b w).elim) h
    | rt r ρ' =>
      cases r with
      | v d =>
        cases d with
        | tuple ds =>
          simp only [q] at h
          rintro v σ' F' H' g z
          cases z with
          | tup hs hr =>
            refine fin g ⟨_, _, rfl, hs, cm_all hr, by rw [ow_all]; exact .nil⟩ h
        | _ => simp only [q] at h
      | fr d => simp only [q] at h
      | pl i => simp only [q] at h

end Py
end L2

namespace L2
namespace Py
open PySem PySem.Spec PyProof.Rows
/-! ### calls of such defs -/
def callFD (fs : En → Res Cs) (os : List Op) : En → Res Cs := fun ρ => match zq6w ρ os with
  | some ps => if ndN (zq6x os) = true then (match fs ps with
    | .ok cs outs => .ok cs (back os outs ρ)
    | _ => .bad) else .bad
  | none => .bad
/-- an expression whose value is such a tuple -/
structure DC (X : Cx) (W : XW) (e : Expr) (f : En → Res Cs) : Prop where
  ex : ∃ t, PE X e t ∧ ∀ (σ : St) (F H : Hp) (ρ : En) (Q : VK), EnvR X.K F H σ ρ → Post X.K W σ ρ F H (f ρ) (fun cs _ F' H' => ∀ v, RdR X.K (fun b => H b = none) F' H' v cs → Q v H') → t σ H Q
def sCallD (fs : En → Res Cs) (g : En → Res (List Op)) : En → Res Cs := bnd g (callFD fs)
section
variable {X : Cx} {W : XW} {pos : Pos}
theorem dc_call {fs : En → Res Cs} {gs : En → Res (List Op)} {k : Nat} {f : Addr} {fd : FuncData} {ps : List Str} {x : Str} {p : Pos} {e : Expr} {es : List Expr} (F : FnOk X.prog X.w X.K X.mg X.base CX0 k f fd ps (spFD X.K ps.length fs)) (hr : Room k X.A) (hg : Gl X x) (hm : X.mg x = some (.ref f)) (hk : PySem.W.keepIn X.K (.ref f) = true) (hb : Binds X.K fd ps [])
    (ha : DA X W (e :: es) gs) (hn : (e :: es).length = ps.length) (hdb : (x == ("__debug__" : Str)) = false := by decide) (he : starEach (e :: es) X.env = (false, eval e X.env) :: starEach es X.env := by rfl) (hpl : (backTo pos (starEach es X.env)).any (·.1) = false := by rfl) :
    DC X W (.Call (.Name x p) (e :: es) [] pos) (sCallD fs gs) := by
  obtain ⟨ta, pa, sa⟩ := ha.ex
  refine ⟨_, pe_call F hr hg hm hk hb .nil pass0 pa hdb he hpl, fun σ F H ρ Q E h => sa σ F H ρ _ E (h.fst fun os ρ1 F1 H1 eq g1 h1 vs ods => ?_)⟩
  rw [List.append_nil]
  unfold callFD at h1
  cases q : zq6w ρ1 os with
  | none => simp only [q] at h1; exact h1.elim
  | some ps' =>
    simp only [q] at h1
    split at h1
    · rename_i nd
      obtain ⟨Ea, ar⟩ := args_env E g1 ods nd q
      refine ⟨F1, ps', by rw [ods.all.len, ha.len _ _ _ eq, hn], Ea, ar, ?_⟩
      have bk : ∀ outs : En, OutsOk ps' outs → back os outs ρ1 = zq6y os outs 0 ρ1 := fun outs oo => by
        unfold back
        split
        · rename_i hp
          rw [backE_nil hp (by rw [oo.len, argsS_len q])]
        · rfl
      cases q2 : fs ps' with
      | bad => simp only [q2] at h1; exact h1.elim
      | exc c r => simp only [q2] at h1; exact h1.elim
      | ok r outs =>
        simp only [q2] at h1
        intro v F' H' ev Eo oo rr
        have gg := call_go E g1 ods nd q ev Eo oo
        exact h1 F' H' (by rw [bk outs oo]; exact gg) v (rr.imp fun b n => none_of_dom g1.go.evo.dom n)
    · exact h1.elim
/-- all its parts made fast -/
theorem goFastC {K : PySem.W.Frag} {σ : St} {ρ0 ρ : En} {F0 H0 H : Hp} (E0 : EnvR K F0 H0 σ ρ0) : ∀ {vs : List V} {cs : Cs} {F : Hp}, GoE K σ ρ0 F0 H0 ρ F H → CmL K (fun b => H0 b = none) F H vs cs → (owV vs cs).Nodup → ∃ F', GoE K σ ρ0 F0 H0 ρ F' H ∧ Same F F' ∧ RpL K F' vs (cs.map (·.2))
  | [], [], F, g, _, _ => ⟨F, g, Same.refl _, .nil⟩
  | [], _ :: _, F, g, c, _ => c.elim
  | _ :: _, [], F, g, c, _ => c.elim
  | v :: vs, (false, d) :: cs, F, g, c, n => by
    obtain ⟨F', g', s, r⟩ := goFastC E0 g c.2 n
    exact ⟨F', g', s, .cons (Rp.mono s c.1) r⟩
  | v :: vs, (true, d) :: cs, F, g, c, n => by
    obtain ⟨b, ev, nb, ob⟩ := c.1
    obtain ⟨n1, n2⟩ := List.nodup_cons.mp n
    obtain ⟨o, hH, hF, rp⟩ := ob.fast
    have g1 := goFastN E0 g nb hH hF
    have sF : Same F (upd F b o) := same_upd' (H := H) hF
    have e1 : Evo (fun x => x = b) F H (upd F b o) H := ⟨sF, fun x o q _ => q, fun x o q n => upd_ne n, fun x o q => ⟨o, q⟩⟩
    have c2 := c.2.evo e1 fun x m z => by subst z; rw [ev] at n1; exact n1 m
    obtain ⟨F', g', s, r⟩ := goFastC E0 g1 c2 n2
    refine ⟨F', g', sF.trans s, .cons ?_ r⟩
    rw [ev]
    exact Rp.mono s rp
def sFzC (f : En → Res Cs) : En → Res Op := bnd f fun cs ρ => .ok (.v (.tuple (cs.map (·.2)))) ρ
theorem de_fzC {e : Expr} {f : En → Res Cs} (h : DC X W e f) : DE X W e (sFzC f) := by
  obtain ⟨t, p, s⟩ := h.ex
  refine ⟨t, p, fun σ F H ρ Q E h => s σ F H ρ _ E (h.fst fun cs ρ1 F1 H1 eq g1 h1 v r => ?_)⟩
  obtain ⟨a, vs, rfl, hs, c, n⟩ := r
  obtain ⟨F2, g2, s2, r2⟩ := goFastC E g1 c n
  exact h1 F2 H1 g2 _ (.tup (same_sqP s2 hs) r2)
/-- return f(..) -/
def sRetC (f : En → Res Cs) : En → Out := andS f fun cs ρ => .rd cs ρ
theorem ds_retC {e : Expr} {f : En → Res Cs} (h : DC X W e f) : DS X W (.Return (some e) pos) (sRetC f) := by
  obtain ⟨t, p, s⟩ := h.ex
  refine ⟨_, ps_ret p, fun σ F H ρ D E h => s σ F H ρ _ E (h.expr fun cs ρ1 F1 H1 eq g1 h1 v r => ?_)⟩
  exact h1 v σ F1 H1 g1.go (r.imp fun b n => .inl n)
end
/-! ### a, b = f(..) -/
theorem goSetG {K : PySem.W.Frag} {σ σ1 : St} {ρ ρ1 : En} {F H F1 H1 : Hp} {i : Nat} {s s' : Sl} {v : V} (g : Go K σ ρ F H σ1 ρ1 F1 H1) (hi : ρ1[i]? = some s) (hf : s.free = true)
    (hs : (∃ d, s' = .val d ∧ Rp K F1 v d) ∨ (∃ d a, s' = .own d ∧ v = .ref a ∧ H a = none ∧ Ob K F1 H1 a d ∧ ∀ (j : Nat) (t : Sl), ρ1[j]? = some t → t.plc = true → σ1[j]? ≠ some (some (.ref a)))) : Go K σ ρ F H (σ1.set i (some v)) (ρ1.set i s') F1 H1 := by
  have E1 := g.env
  have hl : i < σ1.length := by rw [E1.len]; exact (List.getElem?_eq_some_iff.mp hi).1
  have hσ : (σ1.set i (some v))[i]? = some (some v) := by rw [List.getElem?_set_self hl]
  have nm : ∀ d, s' ≠ .inn d ∧ s' ≠ .bor d ∧ s' ≠ .fix d := fun d => by
    rcases hs with ⟨d', rfl, _⟩ | ⟨d', a, rfl, _⟩ <;> exact ⟨nofun, nofun, nofun⟩
  have keep : ∀ (j : Nat) (x : Option V), j ≠ i → σ1[j]? = some x → (σ1.set i (some v))[j]? = some x := fun j x e q => set_put e q
  have keep' : ∀ (j : Nat), j ≠ i → (σ1.set i (some v))[j]? = σ1[j]? := fun j e => List.getElem?_set_ne (Ne.symm e)
  refine ⟨g.evo, ⟨by rw [List.length_set, List.length_set]; exact E1.len, E1.le, fun j t q => ?_, fun j k s1 t1 b hjk q1 q2 m1 m2 z1 z2 => ?_⟩, fun b z => ?_, fun j d q => ?_, fun j d q => ?_, fun j d q => ?_, fun j d q => ?_, fun j d q => ?_, by rw [List.length_set]; exact g.len⟩
  · rcases set_get hi q with ⟨rfl, rfl⟩ | ⟨ne, q⟩
    · refine ⟨_, hσ, ?_⟩
      rcases hs with ⟨d, rfl, r⟩ | ⟨d, a, rfl, ev, _, ob, _⟩
      · exact ⟨v, rfl, r⟩
      · exact ⟨a, by rw [ev], ob⟩
    · obtain ⟨o, e1, e2⟩ := E1.sl j t q
      exact ⟨o, keep j o ne e1, e2⟩
  · rcases set_get hi q1 with ⟨rfl, rfl⟩ | ⟨n1, r1⟩
    · rcases set_get hi q2 with ⟨rfl, rfl⟩ | ⟨n2, r2⟩
      · exact hjk rfl
      · rcases hs with ⟨d, rfl, r⟩ | ⟨d, a, rfl, ev, _, ob, nd⟩
        · cases m1
        · rw [hσ, ev] at z1; cases z1
          rw [keep' k n2] at z2
          exact nd k t1 r2 m2 z2
    · rw [keep' j n1] at z1
      rcases set_get hi q2 with ⟨rfl, rfl⟩ | ⟨n2, r2⟩
      · rcases hs with ⟨d, rfl, r⟩ | ⟨d, a, rfl, ev, _, ob, nd⟩
        · cases m2
        · rw [hσ, ev] at z2; cases z2
          exact nd j s1 r1 (Sl.plc_of_mut m1) z1
      · rw [keep' k n2] at z2
        exact E1.inj j k s1 t1 b hjk r1 r2 m1 m2 z1 z2
  · obtain ⟨j, d, q, z⟩ := z
    rcases set_get hi q with ⟨rfl, e⟩ | ⟨ne, q⟩
    · rcases hs with ⟨d', rfl, r⟩ | ⟨d', a, rfl, ev, n, ob, nd⟩
      · cases e
      · rw [hσ, ev] at z; cases z; exact .inr n
    · rw [keep' j ne] at z; exact g.own b ⟨j, d, q, z⟩
  · rcases set_get hi q with ⟨rfl, e⟩ | ⟨ne, q⟩
    · exact absurd e.symm (nm d).1
    · exact g.inn j d q
  · rcases set_get hi q with ⟨rfl, e⟩ | ⟨ne, q⟩
    · exact absurd e.symm (nm d).2.1
    · exact g.bor j d q
  · obtain ⟨e1, d', h'⟩ := g.kin j d q
    have ne : j ≠ i := fun z => by
      subst z
      rcases h' with h' | h' <;> (rw [hi] at h'; cases h'; cases hf)
    refine ⟨(keep' j ne).trans e1, d', ?_⟩
    rcases h' with h' | h'
    · exact .inl (set_put ne h')
    · exact .inr (set_put ne h')
  · obtain ⟨e1, h'⟩ := g.kbo j d q
    have ne : j ≠ i := fun z => by subst z; rw [hi] at h'; cases h'; cases hf
    exact ⟨(keep' j ne).trans e1, set_put ne h'⟩
  · obtain ⟨e1, h'⟩ := g.kfx j d q
    have ne : j ≠ i := fun z => by subst z; rw [hi] at h'; cases h'; cases hf
    exact ⟨(keep' j ne).trans e1, set_put ne h'⟩
def setAll : St → List Nat → List V → St
  | σ, i :: is, v :: vs => setAll (σ.set i (some v)) is vs
  | σ, _, _ => σ
def slC : Bool × PyData → Sl
  | (true, d) => .own d
  | (false, d) => .val d
def putC : List Nat → Cs → En → Res Unit
  | [], [], ρ => .ok () ρ
  | i :: is, c :: cs, ρ => (match ρ[i]? with
    | some s => if s.free = true then putC is cs (ρ.set i (slC c)) else .bad
    | none => .bad)
  | _, _, _ => .bad
theorem putC_ok {K : PySem.W.Frag} {σ : St} {ρ ρ2 : En} {F H F1 H1 : Hp} : ∀ {is : List Nat} {vs : List V} {cs : Cs} {σ1 : St} {ρ1 : En}, Go K σ ρ F H σ1 ρ1 F1 H1 → CmL K (fun b => H b = none) F1 H1 vs cs → (owV vs cs).Nodup →
    (∀ b, V.ref b ∈ owV vs cs → ∀ (j : Nat) (t : Sl), ρ1[j]? = some t → t.plc = true → σ1[j]? ≠ some (some (.ref b))) → putC is cs ρ1 = .ok () ρ2 → Go K σ ρ F H (setAll σ1 is vs) ρ2 F1 H1
  | [], [], [], σ1, ρ1, g, _, _, _, e => by cases e; exact g
  | [], _ :: _, [], σ1, ρ1, g, c, _, _, e => c.elim
  | [], [], _ :: _, σ1, ρ1, g, c, _, _, e => c.elim
  | [], _ :: _, _ :: _, σ1, ρ1, g, _, _, _, e => by cases e
  | _ :: _, [], [], σ1, ρ1, g, _, _, _, e => by cases e
  | _ :: _, _ :: _, [], σ1, ρ1, g, c, _, _, e => c.elim
  | _ :: _, [], _ :: _, σ1, ρ1, g, c, _, _, e => c.elim
  | i :: is, v :: vs, (fl, d) :: cs, σ1, ρ1, g, c, n, nd, e => by
    rw [putC] at e
    cases q : ρ1[i]? with
    | none => rw [q] at e; cases e
    | some s =>
      rw [q] at e
      simp only at e
      split at e
      · rename_i hf
        have hl : i < σ1.length := by rw [g.env.len]; exact (List.getElem?_eq_some_iff.mp q).1
        cases fl with
        | false =>
          have g2 := goSetG (v := v) g q hf (.inl ⟨d, rfl, c.1⟩)
          show Go K σ ρ F H (setAll (σ1.set i (some v)) is vs) ρ2 F1 H1
          refine putC_ok g2 c.2 n (fun b m j t h1 h2 h3 => ?_) e
          rcases set_get q h1 with ⟨rfl, rfl⟩ | ⟨ne, h1⟩
          · cases h2
          · rw [List.getElem?_set_ne (Ne.symm ne)] at h3
            exact nd b m j t h1 h2 h3
        | true =>
          obtain ⟨b, ev, nb, ob⟩ := c.1
          obtain ⟨n1, n2⟩ := List.nodup_cons.mp n
          have g2 := goSetG (v := v) g q hf (.inr ⟨d, b, rfl, ev, nb, ob, nd b (by rw [← ev]; exact List.mem_cons_self)⟩)
          show Go K σ ρ F H (setAll (σ1.set i (some v)) is vs) ρ2 F1 H1
          refine putC_ok g2 c.2 n2 (fun b' m j t h1 h2 h3 => ?_) e
          rcases set_get q h1 with ⟨rfl, rfl⟩ | ⟨ne, h1⟩
          · rw [List.getElem?_set_self hl] at h3
            cases h3
            exact n1 m
          · rw [List.getElem?_set_ne (Ne.symm ne)] at h3
            exact nd b' (List.mem_cons_of_mem _ m) j t h1 h2 h3
      · cases e
structure DUn (X : Cx) (is : List Nat) (es : List Expr) : Prop where
  ex : ∃ t, PGs X es t ∧ ∀ (vs : List V) (σ : St) (H : Hp) (Q : St → Hp → Prop), vs.length = is.length → Q (setAll σ is vs) H → t vs σ H Q
section
variable {X : Cx} {W : XW} {pos : Pos}
theorem dun_nil : DUn X [] [] := by
  refine ⟨_, pgs_nil, fun vs σ H Q hl q => ?_⟩
  cases vs with
  | nil => exact ⟨rfl, q⟩
  | cons _ _ => cases hl
theorem dun_cons {i : Nat} {is : List Nat} {x : Str} {p : Pos} {es : List Expr} (hN : X.N.Nodup) (hi : X.N[i]? = some x) (hx : Loc X.env.scope x) (h : DUn X is es) (hf : X.fn x = true ∨ X.env.scope.names.lookup x = some .local := by first | exact .inl rfl | exact .inr rfl | assumption)
    (hs : (assignEach (.Name x p :: es) X.env).map (·.2) = assign (.Name x p) X.env :: (assignEach es X.env).map (·.2) := by rfl) : DUn X (i :: is) (.Name x p :: es) := by
  obtain ⟨t, pt, qt⟩ := h.ex
  refine ⟨_, pgs_cons (pg_name hN hi hx hf) pt hs, fun vs σ H Q hl q => ?_⟩
  cases vs with
  | nil => cases hl
  | cons v vs => exact ⟨v, vs, rfl, qt vs _ H Q (by simpa using hl) q⟩
def sUnpC (is : List Nat) (f : En → Res Cs) : En → Out := unS (bnd f (putC is))
theorem putC_len : ∀ {is : List Nat} {cs : Cs} {ρ ρ' : En}, putC is cs ρ = .ok () ρ' → cs.length = is.length
  | [], [], _, _, _ => rfl
  | [], _ :: _, _, _, e => by cases e
  | _ :: _, [], _, _, e => by cases e
  | i :: is, c :: cs, ρ, ρ', e => by
    rw [putC] at e
    cases q : ρ[i]? with
    | none => rw [q] at e; cases e
    | some s =>
      rw [q] at e
      simp only at e
      split at e
      · rw [List.length_cons, List.length_cons, putC_len e]
      · cases e
theorem putC_noexc : ∀ {is : List Nat} {cs : Cs} {ρ ρ' : En} {c : Str}, putC is cs ρ ≠ .exc c ρ'
  | [], [], _, _, _, e => by cases e
  | [], _ :: _, _, _, _, e => by cases e
  | _ :: _, [], _, _, _, e => by cases e
  | i :: is, c :: cs, ρ, ρ', _, e => by
    rw [putC] at e
    cases q : ρ[i]? with
    | none => rw [q] at e; cases e
    | some s =>
      rw [q] at e
      simp only at e
      split at e
      · exact putC_noexc e
      · cases e
theorem CmL.len {K : PySem.W.Frag} {N : Addr → Prop} {F H : Hp} : ∀ {vs : List V} {cs : Cs}, CmL K N F H vs cs → vs.length = cs.length
  | [], [], _ => rfl
  | _ :: _, _ :: _, c => by rw [List.length_cons, List.length_cons, c.2.len]
theorem ds_unpC {es : List Expr} {is : List Nat} {k : Nat} {pt : Pos} {e : Expr} {f : En → Res Cs} (hc : X.calm = true) (hu : DUn X is es) (he : DC X W e f) (hn : (assignEach es X.env).length = is.length := by rfl) (hst : (assignEach es X.env).findIdx? (·.1) = none := by rfl)
    (hs : swapsWithSole [.Tuple es k pt] e pos.line X.env = pure false := by rfl) (hw : swappedStores [.Tuple es k pt] e X.env = pure none := by rfl) (h1 : (assignEach [.Tuple es k pt] X.env).map (·.2) = [assign (.Tuple es k pt) X.env] := by rfl) :
    DS X W (.Assign [.Tuple es k pt] e pos) (sUnpC is f) := by
  obtain ⟨t1, p1, q1⟩ := hu.ex
  obtain ⟨t2, p2, q2⟩ := he.ex
  refine ⟨_, ps_asg p2 (pg_tup hc p1 hn hst) hs hw h1, fun σ F H ρ D E h => q2 σ F H ρ _ E ?_⟩
  unfold sUnpC unS andS bnd at h
  cases e : f ρ with
  | bad => simp only [e] at h; exact h
  | exc c ρ1 => simp only [e] at h; exact fun F1 H1 g => h σ F1 H1 g.go
  | ok cs ρ1 =>
    simp only [e] at h
    intro F1 H1 g v r
    obtain ⟨a, vs, rfl, hs, c, n⟩ := r
    cases q : putC is cs ρ1 with
    | bad => simp only [q] at h; exact h.elim
    | exc c ρ2 => exact absurd q putC_noexc
    | ok u ρ2 =>
      simp only [q] at h
      have hlen : vs.length = is.length := c.len.trans (putC_len q)
      refine ⟨a, vs, rfl, same_sqT g.env.le hs.sq, hlen, q1 vs σ H1 _ hlen ?_⟩
      refine h _ F1 H1 (putC_ok g.go c n (fun b m j t x1 x2 x3 => ?_) q)
      obtain ⟨b', d, e1, nb, ob⟩ := c.own m
      cases e1
      have hn' : ∀ {s0 : Sl}, ρ[j]? = some s0 → s0.plc = true → False := fun {s0} z p => by
        obtain ⟨⟨o, hq⟩, _⟩ := E.plc_there z p x3
        rw [nb] at hq; cases hq
      cases t with
      | no => cases x2
      | val d => cases x2
      | fix d => cases x2
      | own d => obtain ⟨d0, z⟩ := g.ow j d x1; exact hn' z rfl
      | inn d => obtain ⟨d0, z⟩ := g.go.inn j d x1; exact hn' z rfl
      | bor d => exact hn' (g.go.bor j d x1) rfl
end
end Py
end L2

namespace L2
namespace Py
open PySem PySem.Spec PyProof.Rows
/-! ### two names at once: what the compiler does with the stores -/
theorem sw2 {x y : Str} {px py pt pt2 : Pos} {kt k2 : Nat} {a b : Expr} {env : Env} (hb : (env.blockKind == ScopeKind.function) = true) (hx : env.scope.names.lookup x = some .local) (hy : env.scope.names.lookup y = some .local)
   (hl : (py.line == px.line) = true) (hne : (x == y) = false)
   (hs : ([a, b].any fun | .Starred .. => true | _ => false) = false) (hf : [a, b].all (foldedForSure 8) = false) (hc : [a, b].all (constantsAlone 8) = false) :
   swappedStores [.Tuple [.Name x px, .Name y py] kt pt] (.Tuple [a, b] k2 pt2) env = pure (some [x, y]) := by
  have e1 : env.blockKind = ScopeKind.function := by simpa using hb
  have hx' : env.kindOf x = some .local := hx
  have hy' : env.kindOf y = some .local := hy
  have hne2 : (y == x) = false := by
    rcases h : (y == x) with _ | _
    · rfl
    · have := (beq_iff_eq (a := y) (b := x)).1 h; subst this; simp at hne
  have hl' : py.line = px.line := by simpa using hl
  have h1 : ∀ (c d : Expr), ([c, d].any fun | .Starred .. => true | _ => false) = false → (match c with | .Starred _ _ => true | _ => false) = false ∧ (match d with | .Starred _ _ => true | _ => false) = false := by
    intro c d h
    simp only [List.any_cons, List.any_nil, Bool.or_false, Bool.or_eq_false_iff] at h
    constructor
    · cases c <;> first | rfl | exact h.1
    · cases d <;> first | rfl | exact h.2
  obtain ⟨h2, h3⟩ := h1 a b hs
  unfold swappedStores
  simp only [hf, hc]
  simp [Expr.pos, hx', hy', hl', hne2, List.eraseDups_cons, List.filterMap, e1]
  intro h
  exfalso
  rcases h with h | h
  · cases a <;> first | exact Bool.noConfusion h | exact Bool.noConfusion h2
  · cases b <;> first | exact Bool.noConfusion h | exact Bool.noConfusion h3
theorem sw3 {x y z : Str} {px py pz pt pt2 : Pos} {kt k2 : Nat} {a b c : Expr} {env : Env} (hb : (env.blockKind == ScopeKind.function) = true) (hx : env.scope.names.lookup x = some .local) (hy : env.scope.names.lookup y = some .local) (hz : env.scope.names.lookup z = some .local)
   (hl : (py.line == px.line) = true) (hl2 : (pz.line == px.line) = true) (hne : (y == x) = false) (hne2 : (z == x) = false) (hne3 : (z == y) = false)
   (hs : ([a, b, c].any fun | .Starred .. => true | _ => false) = false) (hf : [a, b, c].all (foldedForSure 8) = false) (hc : [a, b, c].all (constantsAlone 8) = false) :
   swappedStores [.Tuple [.Name x px, .Name y py, .Name z pz] kt pt] (.Tuple [a, b, c] k2 pt2) env = pure (some [x, y, z]) := by
  have e1 : env.blockKind = ScopeKind.function := by simpa using hb
  have hx' : env.kindOf x = some .local := hx
  have hy' : env.kindOf y = some .local := hy
  have hz' : env.kindOf z = some .local := hz
  have hl' : py.line = px.line := by simpa using hl
  have hl2' : pz.line = px.line := by simpa using hl2
  have h1 : (match a with | .Starred _ _ => true | _ => false) = false ∧ (match b with | .Starred _ _ => true | _ => false) = false ∧ (match c with | .Starred _ _ => true | _ => false) = false := by
    simp only [List.any_cons, List.any_nil, Bool.or_false, Bool.or_eq_false_iff] at hs
    refine ⟨?_, ?_, ?_⟩
    · cases a <;> first | rfl | exact hs.1
    · cases b <;> first | rfl | exact hs.2.1
    · cases c <;> first | rfl | exact hs.2.2
  obtain ⟨h2, h3, h4⟩ := h1
  unfold swappedStores
  simp only [hf, hc]
  simp [Expr.pos, hx', hy', hz', hl', hl2', hne, hne2, hne3, List.eraseDups_cons, List.filterMap, e1]
  intro h
  exfalso
  rcases h with h | h | h
  · cases a <;> first | exact Bool.noConfusion h | exact Bool.noConfusion h2
  · cases b <;> first | exact Bool.noConfusion h | exact Bool.noConfusion h3
  · cases c <;> first | exact Bool.noConfusion h | exact Bool.noConfusion h4
/-! ### a display of new things, taken apart at once: a, b = {}, [] -/
def rtF : List Op → En → Option Cs
  | [], _ => some []
  | .v d :: os, ρ => (rtF os ρ).map fun p => (false, d) :: p
  | .fr d :: os, ρ => (rtF os ρ).map fun p => (true, d) :: p
  | .pl i :: os, ρ => match ρ[i]? with
    | some (.val d) => (rtF os ρ).map fun p => (false, d) :: p
    | some (.fix d) => (rtF os ρ).map fun p => (false, d) :: p
    | _ => none
theorem rtF_ok {K : PySem.W.Frag} {σ : St} {H0 F H : Hp} {ρ : En} (E : EnvR K F H σ ρ) : ∀ {os : List Op} {vs : List V} {cs : Cs}, OdsA K H0 F H σ vs os → (frV vs os).Nodup → rtF os ρ = some cs →
    CmL K (fun b => H0 b = none) F H vs cs ∧ (owV vs cs).Nodup ∧ ∀ v ∈ owV vs cs, v ∈ frV vs os
  | [], [], cs, _, _, e => by cases e; exact ⟨trivial, .nil, fun _ m => nomatch m⟩
  | [], _ :: _, cs, h, _, e => h.elim
  | _ :: _, [], cs, h, _, e => h.elim
  | .v d :: os, v :: vs, cs, h, nd, e => by
    rw [rtF] at e
    cases q : rtF os ρ with
    | none => rw [q] at e; cases e
    | some p =>
      rw [q] at e; cases e
      obtain ⟨c, n, m⟩ := rtF_ok E h.2 nd q
      exact ⟨⟨h.1, c⟩, n, m⟩
  | .fr d :: os, v :: vs, cs, h, nd, e => by
    rw [rtF] at e
    cases q : rtF os ρ with
    | none => rw [q] at e; cases e
    | some p =>
      rw [q] at e; cases e
      obtain ⟨n1, n2⟩ := List.nodup_cons.mp nd
      obtain ⟨c, n, m⟩ := rtF_ok E h.2 n2 q
      obtain ⟨a, ev, na, ob⟩ := h.1
      refine ⟨⟨⟨a, ev, na, ob⟩, c⟩, List.nodup_cons.mpr ⟨fun z => n1 (m v z), n⟩, fun w mw => ?_⟩
      rcases List.mem_cons.mp mw with z | z
      · rw [z]; exact List.mem_cons_self
      · exact List.mem_cons_of_mem _ (m w z)
  | .pl i :: os, v :: vs, cs, h, nd, e => by
    rw [rtF] at e
    have h1 : σ[i]? = some (some v) := h.1
    cases qs : ρ[i]? with
    | none => rw [qs] at e; cases e
    | some s =>
      rw [qs] at e
      obtain ⟨o, e1, e2⟩ := E.sl i s qs
      rw [h1] at e1; cases e1
      cases s with
      | no => cases e
      | inn d => cases e
      | bor d => cases e
      | own d => cases e
      | val d =>
        simp only at e
        cases q : rtF os ρ with
        | none => rw [q] at e; cases e
        | some p =>
          rw [q] at e; cases e
          obtain ⟨c, n, m⟩ := rtF_ok E h.2 nd q
          obtain ⟨w, e3, r⟩ := e2
          cases e3
          exact ⟨⟨r, c⟩, n, m⟩
      | fix d =>
        simp only at e
        cases q : rtF os ρ with
        | none => rw [q] at e; cases e
        | some p =>
          rw [q] at e; cases e
          obtain ⟨c, n, m⟩ := rtF_ok E h.2 nd q
          obtain ⟨w, e3, r⟩ := e2
          cases e3
          exact ⟨⟨r, c⟩, n, m⟩
def sTupC (gs : En → Res (List Op)) : En → Res Cs := bnd gs fun os ρ => match rtF os ρ with
  | some cs => .ok cs ρ
  | none => .bad
section
variable {X : Cx} {W : XW} {pos : Pos} {es : List Expr} {gs : En → Res (List Op)}
theorem dc_tup {x1 : Nat} {tpos : Pos} (hg : DA X W es gs) (hl : es.length ≤ 1000 := by decide) : DC X W (.Tuple es x1 tpos) (sTupC gs) := by
  obtain ⟨ta, pa, sa⟩ := hg.ex
  refine ⟨_, pe_tupF pa, fun σ F H ρ Q E h => sa σ F H ρ _ E (h.fst fun os ρ1 F1 H1 eq g1 h1 vs ods => ?_)⟩
  cases q : rtF os ρ1 with
  | none => simp only [q] at h1; exact h1.elim
  | some cs =>
    simp only [q] at h1
    obtain ⟨c, n, m⟩ := rtF_ok g1.env ods.all ods.nd q
    refine ⟨by rw [ods.all.len, hg.len _ _ _ eq]; exact Nat.le_of_lt (small1000 hl), fun p ob hp hd => ?_⟩
    have g3 := GoE.layF g1.env hp (.frz ob (.tup vs))
    have ev : Evo (fun a => H1 a = none) F1 H1 (upd F1 p (.frz ob (.tup vs))) (upd H1 p (.frz ob (.tup vs))) := ⟨g3.go.evo.le, fun a o q z => by rw [upd_ne (ne_of_none q hp)]; exact q, fun a o q z => by rw [upd_ne (ne_of_none q hp)], g3.go.evo.dom⟩
    refine h1 _ _ (g1.trans g3) (.ref p) ⟨p, vs, rfl, sqP_frz upd_same hd, c.evo ev (fun b mb z => ?_), n⟩
    obtain ⟨b', d, e1, _, ob⟩ := c.own mb
    cases e1
    obtain ⟨o, ho⟩ := ob.there
    rw [ho] at z; cases z
/-- one statement for both ways -/
theorem par_core {is : List Nat} {σ : St} {ρ : En} {F H : Hp} {D : Ends} (E : EnvR X.K F H σ ρ) (h : PostS X.K W σ ρ F H (sUnpC is (sTupC gs) ρ) D) :
    Post X.K W σ ρ F H (gs ρ) fun os _ F' H' => ∀ (vs : List V), Ods X.K H F' H' σ vs os → vs.length = is.length ∧ D.nx (setAll σ is vs) H' := by
  unfold sUnpC sTupC unS andS bnd at h
  cases e : gs ρ with
  | bad => simp only [e] at h; exact h
  | exc c ρ1 => simp only [e] at h; exact fun F1 H1 g => h σ F1 H1 g.go
  | ok os ρ1 =>
    simp only [e] at h
    intro F1 H1 g vs ods
    cases q0 : rtF os ρ1 with
    | none => simp only [q0] at h; exact h.elim
    | some cs =>
      simp only [q0] at h
      obtain ⟨c, n, m⟩ := rtF_ok g.env ods.all ods.nd q0
      cases q : putC is cs ρ1 with
      | bad => simp only [q] at h; exact h.elim
      | exc c ρ2 => exact absurd q putC_noexc
      | ok u ρ2 =>
        simp only [q] at h
        have hlen : vs.length = is.length := c.len.trans (putC_len q)
        refine ⟨hlen, h _ F1 H1 (putC_ok g.go c n (fun b m j t x1 x2 x3 => ?_) q)⟩
        obtain ⟨b', d, e1, nb, ob⟩ := c.own m
        cases e1
        have hn' : ∀ {s0 : Sl}, ρ[j]? = some s0 → s0.plc = true → False := fun {s0} z p => by
          obtain ⟨⟨o, hq⟩, _⟩ := E.plc_there z p x3
          rw [nb] at hq; cases hq
        cases t with
        | no => cases x2
        | val d => cases x2
        | fix d => cases x2
        | own d => obtain ⟨d0, z⟩ := g.ow j d x1; exact hn' z rfl
        | inn d => obtain ⟨d0, z⟩ := g.go.inn j d x1; exact hn' z rfl
        | bor d => exact hn' (g.go.bor j d x1) rfl
theorem ds_par2C {i j : Nat} {x y : Str} {a b : Expr} {px py pt : Pos} {kt k2 : Nat} {pt2 : Pos} (hc : X.calm = true) (hN : X.N.Nodup) (hi : X.N[i]? = some x) (hj : X.N[j]? = some y) (hij : i ≠ j)
    (hx : X.env.scope.names.lookup x = some .local) (hy : X.env.scope.names.lookup y = some .local) (ha : DA X W [a, b] gs)
    (hw : swappedStores [.Tuple [.Name x px, .Name y py] kt pt] (.Tuple [a, b] k2 pt2) X.env = pure (some [x, y]))
    (hs : swapsWithSole [.Tuple [.Name x px, .Name y py] kt pt] (.Tuple [a, b] k2 pt2) pos.line X.env = pure false := by rfl) :
    DS X W (.Assign [.Tuple [.Name x px, .Name y py] kt pt] (.Tuple [a, b] k2 pt2) pos) (sUnpC [i, j] (sTupC gs)) := by
  obtain ⟨t, p, q⟩ := ha.ex
  refine ⟨_, ps_par hc hN hi hj hij hx hy p hw hs, fun σ F H ρ D E h => q σ F H ρ _ E (Post.imp (par_core E h) fun os ρ' F' H' _ _ k vs ods => ?_)⟩
  obtain ⟨l, k⟩ := k vs ods
  match vs, l, k with
  | [v, w], _, k => exact ⟨v, w, rfl, k⟩
theorem ds_par3C {i j l : Nat} {x y z : Str} {a b c : Expr} {px py pz pt : Pos} {kt k2 : Nat} {pt2 : Pos} (hc : X.calm = true) (hN : X.N.Nodup) (hi : X.N[i]? = some x) (hj : X.N[j]? = some y) (hl : X.N[l]? = some z) (hij : i ≠ j) (hil : i ≠ l) (hjl : j ≠ l)
    (hx : X.env.scope.names.lookup x = some .local) (hy : X.env.scope.names.lookup y = some .local) (hz : X.env.scope.names.lookup z = some .local) (ha : DA X W [a, b, c] gs)
    (hw : swappedStores [.Tuple [.Name x px, .Name y py, .Name z pz] kt pt] (.Tuple [a, b, c] k2 pt2) X.env = pure (some [x, y, z]))
    (hs : swapsWithSole [.Tuple [.Name x px, .Name y py, .Name z pz] kt pt] (.Tuple [a, b, c] k2 pt2) pos.line X.env = pure false := by rfl) :
    DS X W (.Assign [.Tuple [.Name x px, .Name y py, .Name z pz] kt pt] (.Tuple [a, b, c] k2 pt2) pos) (sUnpC [i, j, l] (sTupC gs)) := by
  obtain ⟨t, p, q⟩ := ha.ex
  refine ⟨_, ps_par3 hc hN hi hj hl hij hil hjl hx hy hz p hw hs, fun σ F H ρ D E h => q σ F H ρ _ E (Post.imp (par_core E h) fun os ρ' F' H' _ _ k vs ods => ?_)⟩
  obtain ⟨l, k⟩ := k vs ods
  match vs, l, k with
  | [v, w, u], _, k => exact ⟨v, w, u, rfl, k⟩
end
end Py
end L2

namespace L2
namespace Py
open PySem PySem.Spec PyProof.Rows
/-! ## a new tuple is stored, looked at, a list in it changed, and it is looked at no more -/
def lend1 : Sl → Sl
  | .own d => .bor d
  | .inn d => .bor d
  | s => s
def lend (ρ : En) : En := ρ.map lend1
def lstAt (cs : Cs) (k : Nat) : Bool := match cs[k]? with
  | some (true, .list ds) => decide (ds.length < sizeLine)
  | _ => false
def peek (j : Nat) (cs : Cs) (ρ : En) : En := (lend ρ).set j (.val (.tuple (cs.map (·.2))))
def blkK (j : Nat) (t : En → Res Bool) (d1 : PyData) (k : Nat) (ge : En → Res (List Op)) (cs : Cs) (ρ1 : En) : Out :=
  match ρ1[j]? with
  | some s => if s.free = true then (match t (peek j cs ρ1) with
    | .ok true _ => .rt (.v d1) (ρ1.set j .no)
    | .ok false _ => if lstAt cs k = true then (match ge (peek j cs ρ1) with
      | .ok _ _ => .nx (ρ1.set j .no)
      | _ => .bad) else .bad
    | _ => .bad) else .bad
  | none => .bad
def sBlk (j : Nat) (fc : En → Res Cs) (t : En → Res Bool) (d1 : PyData) (k : Nat) (ge : En → Res (List Op)) : En → Out := andS fc (blkK j t d1 k ge)
theorem Ob.heap {K : PySem.W.Frag} {F H H' : Hp} {a : Addr} (e : ∀ o, H a = some o → H' a = some o) : ∀ {d : PyData}, Ob K F H a d → Ob K F H' a d
  | .list _, ⟨xs, h, f, r⟩ => ⟨xs, e _ h, f, r⟩
  | .dict _, .inl ⟨xs, h, f, r⟩ => .inl ⟨xs, e _ h, f, r⟩
  | .dict _, .inr ⟨xs, h, f, r, z⟩ => .inr ⟨xs, e _ h, f, r, z⟩
theorem SltR.heap {K : PySem.W.Frag} {F H H' : Hp} {o : Option V} {s : Sl} (e : s.plc = true → ∀ a, o = some (.ref a) → ∀ u, H a = some u → H' a = some u) (h : SltR K F H o s) : SltR K F H' o s := by
  cases s with
  | no => exact h
  | val d => exact h
  | fix d => exact h
  | own d => obtain ⟨a, h1, h2⟩ := h; exact ⟨a, h1, h2.heap (e rfl a h1)⟩
  | inn d => obtain ⟨a, h1, h2⟩ := h; exact ⟨a, h1, h2.heap (e rfl a h1)⟩
  | bor d => obtain ⟨a, h1, h2⟩ := h; exact ⟨a, h1, h2.heap (e rfl a h1)⟩
theorem EnvR.heap {K : PySem.W.Frag} {F H H' : Hp} {σ : St} {ρ : En} (E : EnvR K F H σ ρ) (s : Same H H') : EnvR K F H' σ ρ :=
  ⟨E.len, E.le.trans s, fun i t q => by obtain ⟨o, h1, h2⟩ := E.sl i t q; exact ⟨o, h1, h2.heap fun _ a _ u hu => s a u hu⟩, E.inj⟩
theorem lend1_mut (s : Sl) : (lend1 s).mut = false := by cases s <;> rfl
theorem lend1_slt {K : PySem.W.Frag} {F H : Hp} {o : Option V} {s : Sl} (h : SltR K F H o s) : SltR K F H o (lend1 s) := by cases s <;> exact h
theorem peek_mut {ρ : En} {j i : Nat} {cs : Cs} {s : Sl} (h : (peek j cs ρ)[i]? = some s) : s.mut = false := by
  unfold peek lend at h
  rw [List.getElem?_set] at h
  split at h
  · split at h
    · cases h; rfl
    · cases h
  · rw [List.getElem?_map] at h
    cases q : ρ[i]? with
    | none => rw [q] at h; cases h
    | some s0 => rw [q] at h; cases h; exact lend1_mut s0
theorem peek_env {K : PySem.W.Frag} {F H : Hp} {σ : St} {ρ : En} {j : Nat} {cs : Cs} {v : V} (E : EnvR K F H σ ρ) (r : Rp K F v (.tuple (cs.map (·.2)))) : EnvR K F H (σ.set j (some v)) (peek j cs ρ) := by
  refine ⟨?_, E.le, fun i t q => ?_, fun i k s t a _ q1 _ m _ _ _ => ?_⟩
  · unfold peek lend; rw [List.length_set, List.length_set, List.length_map, E.len]
  · unfold peek lend at q
    rw [List.getElem?_set] at q ⊢
    split at q
    · rename_i hj
      split at q
      · rename_i hl
        cases q
        rw [List.length_map, ← E.len] at hl
        rw [if_pos hj, if_pos hl]
        exact ⟨_, rfl, v, rfl, r⟩
      · cases q
    · rename_i hj
      rw [if_neg hj]
      rw [List.getElem?_map] at q
      cases q0 : ρ[i]? with
      | none => rw [q0] at q; cases q
      | some s0 =>
        rw [q0] at q; cases q
        obtain ⟨o, h1, h2⟩ := E.sl i s0 q0
        exact ⟨o, h1, lend1_slt h2⟩
  · rw [peek_mut q1] at m; cases m
theorem peek_own {σ : St} {ρ : En} {j : Nat} {cs : Cs} {a : Addr} (h : ownA σ (peek j cs ρ) a) : False := by
  rcases h with ⟨i, d, h1, _⟩ | ⟨i, d, h1, _⟩
  · have := peek_mut h1; cases this
  · have := peek_mut h1; cases this
theorem peek_same {K : PySem.W.Frag} {F H F' H' : Hp} {σ : St} {ρ ρ' : En} {j : Nat} {cs : Cs} (g : GoE K σ (peek j cs ρ) F H ρ' F' H') : Same H H' := fun a o h => g.go.evo.keep a o h peek_own
theorem cm_at {K : PySem.W.Frag} {N : Addr → Prop} {F H : Hp} : ∀ {vs : List V} {cs : Cs} {k : Nat} {d : PyData}, CmL K N F H vs cs → cs[k]? = some (true, d) → ∃ b, vs[k]? = some (.ref b) ∧ N b ∧ Ob K F H b d
  | v :: vs, c :: cs, 0, d, z, h => by
    cases h
    obtain ⟨b, e, n, ob⟩ := z.1
    exact ⟨b, by rw [e]; rfl, n, ob⟩
  | v :: vs, c :: cs, k + 1, d, z, h => cm_at (k := k) z.2 h
  | [], _ :: _, _, _, z, _ => z.elim
  | [], [], _, _, _, h => by cases h
  | _ :: _, [], _, _, z, _ => z.elim
theorem blk_go {K : PySem.W.Frag} {F H Fc Hc H3 : Hp} {σ : St} {ρ ρ1 : En} {j : Nat} {s : Sl} {v : V} {B : Addr → Prop} (E : EnvR K F H σ ρ) (g : GoE K σ ρ F H ρ1 Fc Hc) (hi : ρ1[j]? = some s) (hf : s.free = true)
    (hB : ∀ a, B a → H a = none ∧ Fc a = none) (hk : ∀ a o, Hc a = some o → ¬ B a → H3 a = some o) (hd : ∀ a o, Hc a = some o → ∃ o', H3 a = some o') :
    Go K σ ρ F H (σ.set j (some v)) (ρ1.set j .no) Fc H3 := by
  have E1 := g.env
  have hl : j < ρ1.length := (List.getElem?_eq_some_iff.mp hi).1
  have hls : j < σ.length := by rw [E1.len]; exact hl
  have old : ∀ (k : Nat) (t : Sl) (b : Addr), ρ1[k]? = some t → t.plc = true → σ[k]? = some (some (.ref b)) → ∃ x, H b = some x := fun k t b q p z => by
    cases t with
    | no => cases p
    | val d => cases p
    | fix d => cases p
    | own d => obtain ⟨d0, q0⟩ := g.ow k d q; exact (E.plc_there q0 rfl z).1
    | inn d => obtain ⟨d0, q0⟩ := g.go.inn k d q; exact (E.plc_there q0 rfl z).1
    | bor d => exact (E.plc_there (g.go.bor k d q) rfl z).1
  have nb : ∀ {a : Addr}, (∃ x, H a = some x) → ¬ B a := fun {a} ⟨x, hx⟩ hb => by rw [(hB a hb).1] at hx; cases hx
  have get : ∀ {i : Nat} {t : Sl}, (ρ1.set j .no)[i]? = some t → (i = j ∧ t = .no) ∨ (j ≠ i ∧ ρ1[i]? = some t) := fun {i t} q => by
    rw [List.getElem?_set] at q
    split at q
    · rename_i e
      cases q; exact .inl ⟨e.symm, rfl⟩
    · rename_i e; exact .inr ⟨e, q⟩
  have sg : ∀ {i : Nat}, j ≠ i → (σ.set j (some v))[i]? = σ[i]? := fun {i} ne => by rw [List.getElem?_set, if_neg ne]
  have rg : ∀ {i : Nat}, j ≠ i → (ρ1.set j .no)[i]? = ρ1[i]? := fun {i} ne => by rw [List.getElem?_set, if_neg ne]
  refine ⟨⟨g.go.evo.le, fun a o h n => hk a o (g.go.evo.keep a o h n) (nb ⟨o, h⟩), g.go.evo.keepF, fun a o h => ?_⟩, ⟨by rw [List.length_set, List.length_set]; exact E1.len, fun a o h => hk a o (E1.le a o h) (fun hb => by rw [(hB a hb).2] at h; cases h), fun i t q => ?_, fun i k s1 t1 b ne q1 q2 m1 m2 z1 z2 => ?_⟩, fun a z => ?_, fun i d q => ?_, fun i d q => ?_, fun i d q => ?_, fun i d q => ?_, fun i d q => ?_, ?_⟩
  · obtain ⟨o', h'⟩ := g.go.evo.dom a o h; exact hd a o' h'
  · rcases get q with ⟨rfl, rfl⟩ | ⟨ne, q⟩
    · exact ⟨some v, by rw [List.getElem?_set, if_pos rfl, if_pos hls], trivial⟩
    · obtain ⟨o, h1, h2⟩ := E1.sl i t q
      refine ⟨o, by rw [sg ne]; exact h1, h2.heap fun p a e u hu => hk a u hu (nb (old i t a q p (by rw [h1, e])))⟩
  · rcases get q1 with ⟨_, rfl⟩ | ⟨n1, q1⟩
    · cases m1
    · rcases get q2 with ⟨_, rfl⟩ | ⟨n2, q2⟩
      · cases m2
      · rw [sg n1] at z1; rw [sg n2] at z2
        exact E1.inj i k s1 t1 b ne q1 q2 m1 m2 z1 z2
  · obtain ⟨i, d, q, z⟩ := z
    rcases get q with ⟨_, h⟩ | ⟨ne, q⟩
    · cases h
    · rw [sg ne] at z
      obtain ⟨d0, h0⟩ := g.ow i d q
      exact .inl ⟨i, d0, h0, z⟩
  · rcases get q with ⟨_, h⟩ | ⟨ne, q⟩
    · cases h
    · exact g.go.inn i d q
  · rcases get q with ⟨_, h⟩ | ⟨ne, q⟩
    · cases h
    · exact g.go.bor i d q
  · obtain ⟨_, d', h⟩ := g.go.kin i d q
    have ne : j ≠ i := fun e => by
      subst e
      rcases h with h | h <;> (rw [hi] at h; cases h; cases hf)
    rw [sg ne, rg ne]
    exact ⟨rfl, d', h⟩
  · obtain ⟨_, h⟩ := g.go.kbo i d q
    have ne : j ≠ i := fun e => by subst e; rw [hi] at h; cases h; cases hf
    rw [sg ne, rg ne]
    exact ⟨rfl, h⟩
  · obtain ⟨_, h⟩ := g.go.kfx i d q
    have ne : j ≠ i := fun e => by subst e; rw [hi] at h; cases h; cases hf
    rw [sg ne, rg ne]
    exact ⟨rfl, h⟩
  · rw [List.length_set]; exact g.go.len
section
variable {X : Cx} {W : XW} {pos p2 p3 p4 p5 p6 p7 p8 p9 : Pos}
theorem blk_core {j k : Nat} {f : En → Res Cs} {t : En → Res Bool} {d1 : PyData} {ge : En → Res (List Op)} {te : TE} {tt : TT} {t1 : TS} {ta : TA}
    (qe : ∀ (σ : St) (F H : Hp) (ρ : En) (Q : VK), EnvR X.K F H σ ρ → Post X.K W σ ρ F H (f ρ) (fun cs _ F' H' => ∀ v, RdR X.K (fun b => H b = none) F' H' v cs → Q v H') → te σ H Q)
    (qt : ∀ (σ : St) (F H : Hp) (ρ : En) (Q : Bool → Hp → Prop), EnvR X.K F H σ ρ → Post X.K W σ ρ F H (t ρ) (fun b _ _ H' => Q b H') → tt σ H Q)
    (q1 : ∀ (σ : St) (F H : Hp) (ρ : En) (D : Ends), EnvR X.K F H σ ρ → PostS X.K W σ ρ F H (sRet (sC d1) ρ) D → t1 D σ H)
    (hlen : ∀ ρ os ρ', ge ρ = .ok os ρ' → os.length = 1)
    (qa : ∀ (σ : St) (F H : Hp) (ρ : En) (Q : List V → Hp → Prop), EnvR X.K F H σ ρ → Post X.K W σ ρ F H (ge ρ) (fun os _ F' H' => ∀ vs, Ods X.K H F' H' σ vs os → Q vs H') → ta σ H Q)
    (σ : St) (F H : Hp) (ρ : En) (D : Ends) (E : EnvR X.K F H σ ρ) (h : PostS X.K W σ ρ F H (sBlk j f t d1 k ge ρ) D) :
    tSeq (tAsg te (gName j)) (tSeq (tIfS tt t1 tNext) (tDrop (tBM X.K "list" rAppend (tOp (rIx X.K) (tVar j) (tC (.int (k : Int)))) ta))) D σ H := by
  refine qe σ F H ρ _ E ?_
  unfold sBlk andS at h
  cases e0 : f ρ with
  | bad => simp only [e0] at h; exact h
  | exc c ρ1 => simp only [e0] at h; exact fun F1 H1 g => h σ F1 H1 g.go
  | ok cs ρ1 =>
    simp only [e0] at h
    intro Fc Hc g v r
    obtain ⟨a, vs, rfl, hsq, cm, nd⟩ := r
    obtain ⟨F1, g1, sF, rp⟩ := goFastC E g cm nd
    have r1 : Rp X.K F1 (.ref a) (.tuple (cs.map (·.2))) := .tup (same_sqP sF hsq) rp
    have E1 := peek_env (j := j) g1.env r1
    unfold blkK at h
    cases hs0 : ρ1[j]? with
    | none => simp only [hs0] at h; exact h.elim
    | some s =>
      simp only [hs0] at h
      cases hfr : s.free with
      | false => rw [hfr, if_neg (by decide)] at h; exact h.elim
      | true =>
        rw [hfr, if_pos rfl] at h
        refine qt _ F1 Hc (peek j cs ρ1) _ E1 ?_
        cases et : t (peek j cs ρ1) with
        | bad => simp only [et] at h; exact h.elim
        | exc c ρ' => simp only [et] at h; exact h.elim
        | ok b ρ' =>
          simp only [et] at h
          intro F' H' gT
          have sH := peek_same gT
          cases b with
          | true =>
            have G := blk_go (v := .ref a) (B := fun _ => False) E g hs0 hfr (fun a h => h.elim) (fun a o h _ => sH a o h) (fun a o h => ⟨o, sH a o h⟩)
            refine iteT (q1 _ _ _ _ _ G.env ?_)
            exact fun v2 σ2 F2 H2 g2 r2 => h v2 σ2 F2 H2 (G.trans g2) r2
          | false =>
            refine iteF ?_
            simp only at h
            split at h
            · rename_i hl
              cases ege : ge (peek j cs ρ1) with
              | bad => simp only [ege] at h; exact h.elim
              | exc c ρ' => simp only [ege] at h; exact h.elim
              | ok os ρ2 =>
                simp only [ege] at h
                unfold lstAt at hl
                split at hl
                · rename_i ds hc
                  have hz := of_decide_eq_true hl
                  obtain ⟨b, hb1, nb, ob⟩ := cm_at cm hc
                  obtain ⟨xs, hb2, hb3, rpx⟩ := ob
                  have hj : j < σ.length := by rw [g.env.len]; exact (List.getElem?_eq_some_iff.mp hs0).1
                  refine ⟨.ref a, by rw [List.getElem?_set, if_pos rfl, if_pos hj], .inr (.inl ⟨a, vs, (k : Int), .ref b, rfl, rfl, same_sqT (g.env.le.trans sH) hsq.sq, L2.atI_nat hb1, ?_⟩)⟩
                  refine ⟨.inl ⟨rfl, xs, .inl (.inl (sH _ _ hb2))⟩, qa _ F1 H' (peek j cs ρ1) _ (E1.heap sH) ?_⟩
                  rw [ege]
                  intro F2 H2 gA us ods
                  have sH2 := peek_same gA
                  have hu : us.length = 1 := by rw [ods.all.len]; exact hlen _ _ _ ege
                  match us, hu with
                  | [y], _ =>
                    refine ⟨b, xs, y, rfl, rfl, sH2 _ _ (sH _ _ hb2), by rw [rpx.length]; exact hz, ?_⟩
                    exact h _ Fc _ (blk_go (v := .ref a) (B := fun z => z = b) E g hs0 hfr (fun z hz => by subst hz; exact ⟨nb, hb3⟩) (fun z o hz nz => by rw [upd_ne nz]; exact sH2 _ _ (sH _ _ hz)) (fun z o hz => by
                      by_cases e : z = b
                      · exact ⟨.lst (xs ++ [y]), by subst e; unfold upd; rw [if_pos rfl]⟩
                      · exact ⟨o, by rw [upd_ne e]; exact sH2 _ _ (sH _ _ hz)⟩))
                · cases hl
            · exact h.elim
theorem dss_blk {j k q : Nat} {x : Str} {e c e3 : Expr} {b1 rest : List Stmt} {f : En → Res Cs} {t : En → Res Bool} {d1 : PyData} {s2 : En → Out} {ge : En → Res (List Op)}
    (hN : X.N.Nodup) (hi : X.N[j]? = some x) (hx : Loc X.env.scope x) (he : DC X W e f) (hv : PE X (.Name x p6) (tVar j)) (ht : DT X W c t) (ha : DSs X W b1 (sRet (sC d1))) (hg : DA X W [e3] ge) (hrest : DSs X W rest s2)
    (hs : swapsWith e (some (.Name x p2)) pos.line X.env = pure false := by rfl)
    (hf : X.fn x = true ∨ X.env.scope.names.lookup x = some .local := by first | exact .inl rfl | exact .inr rfl)
    (hs3 : swapsWith (.Call (.Attribute (.Subscript (.Name x p6) (.Constant (.int (k : Int)) q p7) p8) "append" p9) [e3] [] p5) none p4.line X.env = pure false := by rfl)
    (hbase : attributeBase (.Subscript (.Name x p6) (.Constant (.int (k : Int)) q p7) p8) "append" X.env (eval (.Subscript (.Name x p6) (.Constant (.int (k : Int)) q p7) p8) X.env) = eval (.Subscript (.Name x p6) (.Constant (.int (k : Int)) q p7) p8) X.env := by rfl)
    (hfew : ((backTo p5 (starEach [e3] X.env)).all (fun x => !x.1) && (backToKw p5 (keywordEach [] X.env)).all (fun x => x.1.isSome)
      && decide (([e3] : List Expr).length + ([] : List Keyword).length + (if ([] : List Keyword).isEmpty then 0 else 1) < 30)) = true := by rfl)
    (hline : (p9.endLine == p5.line) = true := by rfl) (hst : starEach [e3] X.env = (false, eval e3 X.env) :: starEach [] X.env := by rfl) (hplain : (backTo p5 (starEach [] X.env)).any (·.1) = false := by rfl) :
    DSs X W (.Assign [.Name x p2] e pos :: .If c b1 [] p3 :: .Expr (.Call (.Attribute (.Subscript (.Name x p6) (.Constant (.int (k : Int)) q p7) p8) "append" p9) [e3] [] p5) p4 :: rest) (seqS (sBlk j f t d1 k ge) s2) := by
  obtain ⟨te, pe, qe⟩ := he.ex
  obtain ⟨tt, pt, qt⟩ := ht.ex
  obtain ⟨t1, p1, q1⟩ := ha.ex
  obtain ⟨ta, pa, qa⟩ := hg.ex
  obtain ⟨t2, pr, q2⟩ := hrest.ex
  have hix : PE X (.Subscript (.Name x p6) (.Constant (.int (k : Int)) q p7) p8) (tOp (rIx X.K) (tVar j) (tC (.int (k : Int)))) := pe_ix ix_seq hv pe_int (fun _ _ => rfl)
  have hap := pe_bm PySem.F.plainAttrs_list PySem.F.slot_list_append PySem.F.type_list_append mt_append hix pa hbase hfew hline hst hplain
  refine ⟨_, pss_cons (ps_set hN hi hx pe hs hf) (pss_cons (ps_if pt p1 pss_nil) (pss_cons (ps_expr hap hs3) pr)), fun σ F H ρ D E h => ?_⟩
  refine blk_core (j := j) (k := k) (d1 := d1) qe qt q1 (fun ρ os ρ' e => hg.len ρ os ρ' e) qa σ F H ρ { D with nx := t2 D } E ?_
  unfold seqS at h
  cases e : sBlk j f t d1 k ge ρ with
  | nx ρ' => rw [e] at h; exact fun σ' F' H' g => q2 σ' F' H' ρ' D g.env (h.go g)
  | bk ρ' => rw [e] at h; exact h
  | ct ρ' => rw [e] at h; exact h
  | rt r ρ' => rw [e] at h; exact h
  | rd cs ρ' => rw [e] at h; exact h
  | exc c ρ' => rw [e] at h; exact h
  | bad => rw [e] at h; exact h
/-! an argument made fast -/
def hdD : List PyData → PyData
  | d :: _ => d
  | [] => .none
def sFzE (f : En → Res Op) : En → Res Op := bnd f fun o => bnd (fzs [o]) fun ds ρ => .ok (.v (hdD ds)) ρ
theorem de_fzE {e : Expr} {f : En → Res Op} (h : DE X W e f) : DE X W e (sFzE f) := by
  obtain ⟨t, p, s⟩ := h.ex
  refine ⟨t, p, fun σ F H ρ Q E h => s σ F H ρ _ E (h.fst fun o ρ1 F1 H1 eq g1 h1 v r => ?_)⟩
  obtain ⟨ds, ρ2, F2, _, g2, rp, h2⟩ := post_fzs (vs := [v]) (os := [o]) E g1 ⟨⟨r, trivial⟩, by cases o <;> simp [frV]⟩ h1
  cases rp with
  | cons r1 r2 => exact h2 F2 H1 g2 v r1
/-! truth of any datum -/
def trD : PyData → Option Bool
  | .none => some false
  | .bool b => some b
  | .int i => some (i != 0)
  | .str x => if x.length ≤ sizeLine then some ((x.length : Int) != 0) else none
  | .list ds => some (!ds.isEmpty)
  | .tuple ds => some (!ds.isEmpty)
  | .dict _ => none
def trO (o : Op) : En → Res Bool := bnd (rdd o) fun d ρ => match trD d with
  | some b => .ok b ρ
  | none => .bad
theorem isE_rp {K : PySem.W.Frag} {F : Hp} {xs : List V} {ds : List PyData} (r : RpL K F xs ds) : (!ds.isEmpty) = !xs.isEmpty := by cases r <;> rfl
theorem post_tr {β : Type} {K : PySem.W.Frag} {H0 : Hp} {σ : St} {ρ : En} {F H : Hp} {o : Op} {v : V} {k : Bool → En → Res β} {Z : β → En → Hp → Hp → Prop} (E : EnvR K F H σ ρ) (r : OdR K H0 F H σ v o) (h : Post K W σ ρ F H (bnd (trO o) k ρ) Z) : ∃ b, TruV K v H b ∧ Post K W σ ρ F H (k b ρ) Z := by
  unfold trO bnd rdd at h
  cases e : rd ρ o with
  | none => simp only [bnd, e] at h; exact h.elim
  | some d =>
    simp only [bnd, e] at h
    have rr := r.rd1 E e
    cases et : trD d with
    | none => simp only [et] at h; exact h.elim
    | some b =>
      simp only [et] at h
      refine ⟨b, ?_, h⟩
      cases d with
      | none => cases rr; cases et; rfl
      | bool c => rw [rd1_bool rr]; cases et; rfl
      | int c => rw [rd1_int rr]; cases et; rfl
      | str c =>
        rw [rd1_str rr]
        have et : (if c.length ≤ sizeLine then some ((c.length : Int) != 0) else none) = some b := et
        split at et
        · rename_i hz; cases et; exact ⟨hz, rfl⟩
        · cases et
      | list ds => obtain ⟨a, xs, rfl, h1, h2⟩ := rr; cases et; exact .inl ⟨xs, h1, isE_rp h2⟩
      | tuple ds => obtain ⟨a, xs, rfl, h1, h2⟩ := rr; cases et; exact .inr (.inl ⟨xs, same_sqT E.le h1.sq, isE_rp h2⟩)
      | dict ds => cases et
def sTru (f : En → Res Op) : En → Res Bool := bnd f fun o => bnd (trO o) fun b ρ => .ok b ρ
theorem dt_tru {e : Expr} {f : En → Res Op} (ha : DE X W e f) (he : ∀ whole, isTrue e X.env whole = (do let v ← whole; standAt e.pos; holding [v] (truthy v)) := by intro _; rfl) : DT X W e (sTru f) := by
  obtain ⟨ta, pa, sa⟩ := ha.ex
  refine ⟨_, pt_truth pa he, fun σ F H ρ Q E h => sa σ F H ρ _ E (h.split.imp fun o1 ρ1 F1 H1 _ g1 h1 v1 r1 => ?_)⟩
  obtain ⟨b, e1, h2⟩ := post_tr g1.env r1 h1
  exact ⟨b, e1, h2 F1 H1 (.refl g1.env)⟩
def sOrT (f g : En → Res Op) : En → Res Op := bnd f fun o => bnd (trO o) fun b => if b = true then fun ρ => .ok o ρ else g
theorem de_orT {a b : Expr} {rest : List Expr} {f1 f2 : En → Res Op} (ha : DE X W a f1) (hb : DE X W (.BoolOp .Or (b :: rest) pos) f2) : DE X W (.BoolOp .Or (a :: b :: rest) pos) (sOrT f1 f2) := by
  obtain ⟨ta, pa, sa⟩ := ha.ex
  obtain ⟨tb, pb, sb⟩ := hb.ex
  refine ⟨_, pe_orT pa pb, fun σ F H ρ Q E h => sa σ F H ρ _ E (h.split.imp fun o1 ρ1 F1 H1 _ g1 h1 v1 r1 => ?_)⟩
  obtain ⟨c, e1, h2⟩ := post_tr g1.env r1 h1
  refine ⟨c, e1, ?_⟩
  cases c with
  | true => exact iteT (h2 F1 H1 (.refl g1.env) _ r1)
  | false => exact iteF (sb σ F1 H1 ρ1 _ g1.env (Post.early g1.go.evo.dom h2))
end
end Py
end L2

namespace L2
namespace Py
open PySem PySem.Spec PyProof.Rows
/-! ## range(i, j, -1), sum(xs) -/
def rngD (hi : Int) (n : Nat) : List PyData := (List.range n).map fun (k : Nat) => .int (hi - k)
def r3 (ds : List PyData) : En → Res (List PyData × List Op) := fun ρ => match ds with
  | [.int i, .int j, .int c] => if c = -1 ∧ -(2 ^ 62) ≤ i ∧ i < 2 ^ 62 ∧ -(2 ^ 62) ≤ j ∧ j < 2 ^ 62 then .ok (rngD i (i - j).toNat, []) ρ else .bad
  | _ => .bad
def sRng3 (gs : En → Res (List Op)) : En → Res (List PyData × List Op) := bnd gs fun os => bnd (rdds os) r3
theorem itok_rngD {K : PySem.W.Frag} {F H : Hp} {lo : Int} {n : Nat} {A : Addr → Prop} : ItOk K A F H (Itc lo (-1) n) (rngD lo n) := ⟨fun F2 H2 s1 s2 k => by
  have hl : (rngD lo n).length = n := by unfold rngD; rw [List.length_map, List.length_range]
  refine ⟨by rw [hl]; exact Nat.le_refl _, fun i d hd => ?_⟩
  have hi : i < n := by rw [← hl]; exact (List.getElem?_eq_some_iff.mp hd).1
  refine ⟨hi, fun x H3 ⟨e1, e2⟩ => ?_⟩
  subst e1 e2
  have : d = .int (lo + (i : Nat) * (-1)) := by
    unfold rngD at hd
    rw [List.getElem?_map, List.getElem?_range hi] at hd
    rw [show lo + (i : Int) * (-1) = lo - i by omega]
    exact (Option.some.inj hd).symm
  subst this
  exact ⟨F2, .refl, s2, .int _⟩⟩
theorem rds3 {K : PySem.W.Frag} {F H : Hp} {vs : List V} {d e f : PyData} (h : Rds K F H vs [d, e, f]) : ∃ v w x, vs = [v, w, x] ∧ Rd1 K F H v d ∧ Rd1 K F H w e ∧ Rd1 K F H x f := by
  cases vs with
  | nil => exact h.elim
  | cons v vs =>
    obtain ⟨w, x, rfl, r, s⟩ := rds2 h.2
    exact ⟨v, w, x, rfl, h.1, r, s⟩
section
variable {X : Cx} {W : XW} {pos : Pos} {tg : Expr}
theorem di_rng3 {a b c : Expr} {p : Pos} {gs : En → Res (List Op)} (hgl : Gl X "range") (hm : X.mg "range" = none) (ha : DA X W [a, b, c] gs) (hs : starEach [a, b, c] X.env = (false, eval a X.env) :: starEach [b, c] X.env := by rfl) (hpl : (backTo pos (starEach [b, c] X.env)).any (·.1) = false := by rfl) : DI X W tg (.Call (.Name "range" p) [a, b, c] [] pos) (sRng3 gs) := by
  obtain ⟨ta, pa, sa⟩ := ha.ex
  refine ⟨_, pi_range3 hgl hm pa hs hpl, fun σ F H ρ R E h => sa σ F H ρ _ E (h.fst fun os ρ1 F1 H1 _ g1 h1 vs ods => ?_)⟩
  rcases rdds_ok g1.env ods.all with ⟨ds, e1, rs⟩ | e1
  · unfold bnd at h1
    simp only [e1] at h1
    unfold r3 at h1
    split at h1
    · rename_i i j c
      split at h1
      · rename_i hb
        obtain ⟨hc, h2, h3, h4, h5⟩ := hb
        subst hc
        obtain ⟨v, w, x, rfl, r1, r2, r3⟩ := rds3 rs
        rw [rd1_int r1, rd1_int r2, rd1_int r3]
        exact ⟨i, j, -1, (i - j).toNat, rfl, RgC.neg h2 h3 h4 h5, h1 F1 H1 g1 (Itc i (-1) (i - j).toNat) (fun _ => False) [] trivial (fun _ m => nomatch m) (fun _ z => z.elim) itok_rngD⟩
      · exact h1.elim
    · exact h1.elim
  · unfold bnd at h1
    simp only [e1] at h1
    exact h1.elim
end
def intsD : List PyData → Option (List Int)
  | [] => some []
  | .int i :: ds => (intsD ds).map (i :: ·)
  | _ :: _ => none
theorem intsD_rp {K : PySem.W.Frag} {F : Hp} : ∀ {xs : List V} {ds : List PyData} {ns : List Int}, RpL K F xs ds → intsD ds = some ns → xs = ns.map V.int
  | _, _, ns, .nil, e => by cases e; rfl
  | v :: vs, d :: ds, ns, .cons r t, e => by
    cases d with
    | int i =>
      unfold intsD at e
      cases q : intsD ds with
      | none => rw [q] at e; cases e
      | some ms =>
        rw [q] at e; cases e
        cases r
        rw [intsD_rp t q]; rfl
    | _ => cases e
def pSum : List PyData → Option Op
  | [.list ds] => (intsD ds).map fun ns => .v (.int ns.sum)
  | _ => none
theorem pn_sum {K : PySem.W.Frag} : PN K (rSum K) pSum := by
  intro F H xs ds o Q le rs ho q
  unfold pSum at ho
  split at ho
  · rename_i ds
    obtain ⟨v, rfl, a, ys, rfl, h1, r1⟩ := rds1 rs
    cases e : intsD ds with
    | none => rw [e] at ho; cases ho
    | some ns =>
      rw [e] at ho
      cases ho
      rw [intsD_rp r1 e] at h1
      exact ⟨a, ns, rfl, h1, gives_v le (.int _) q⟩
  · cases ho
/-! ## dict(xs) of a list of pairs -/
def pairsD : List PyData → Option (List (PyData × PyData))
  | [] => some []
  | .tuple [k, v] :: ds => if (keyOf k).isSome = true then (pairsD ds).map ((k, v) :: ·) else none
  | _ :: _ => none
def mergeD (kvs : List (PyData × PyData)) (ps : List (PyData × PyData)) : List (PyData × PyData) := ps.foldl (fun acc p => putD acc p.1 p.2) kvs
theorem RpK.merge {K : PySem.W.Frag} {F : Hp} : ∀ {more : List (Key × V)} {ps : List (PyData × PyData)} {kvs : List (Key × V)} {ds : List (PyData × PyData)}, RpK K F more ps → RpK K F kvs ds → RpK K F (mergeK kvs more) (mergeD ds ps)
  | _, _, _, _, .nil, r => r
  | _, _, kvs, ds, @RpK.cons _ _ k v more d ps q t, r => by
    show RpK K F (mergeK (putK kvs k v) more) (mergeD (putD ds (keyD k) d) ps)
    exact RpK.merge t (RpK.put q r)
theorem pairsD_rp {K : PySem.W.Frag} {F H : Hp} (le : Same F H) : ∀ {ys : List V} {ds : List PyData} {ps : List (PyData × PyData)}, RpL K F ys ds → pairsD ds = some ps → ∃ (as : List Addr) (kvs : List (Key × V)), ys = as.map V.ref ∧ Paired (fun p kv => SqT K H p [kV kv.1, kv.2]) as kvs ∧ RpK K F kvs ps
  | _, _, ps, .nil, e => by cases e; exact ⟨[], [], rfl, .nil, .nil⟩
  | y :: ys, d :: ds, ps, .cons r t, e => by
    unfold pairsD at e
    split at e
    · rename_i h; cases h
    · rename_i k v ds' h
      cases h
      cases hk : keyOf k with
      | none => rw [hk] at e; cases e
      | some kk =>
        rw [hk] at e
        simp only [Option.isSome_some, if_true] at e
        cases q : pairsD ds with
        | none => rw [q] at e; cases e
        | some ps' =>
          rw [q] at e
          cases e
          obtain ⟨as, kvs, e1, e2, e3⟩ := pairsD_rp le t q
          cases r with
          | tup h1 h2 =>
            cases h2 with
            | cons r1 h3 =>
              cases h3 with
              | cons r2 h4 =>
                cases h4
                rename_i a v1 v2
                have ek : v1 = kV kk := rd1_key (Rd1.of le r1) hk
                subst ek
                refine ⟨a :: as, (kk, v2) :: kvs, by rw [e1]; rfl, .cons (same_sqT le h1.sq) e2, ?_⟩
                rw [keyD_of hk]
                exact .cons r2 e3
    · cases e
theorem gives_dic {K : PySem.W.Frag} {F H : Hp} {ds : List (PyData × PyData)} {vs : List (Key × V)} {Q : VK} {p : Addr} (le : Same F H) (r : RpK K F vs ds) (hp : H p = none) (h : Gives K F H (.fr (.dict ds)) Q) : Q (.ref p) (upd H p (.dK vs)) := by
  have hF : F p = none := le.free hp
  refine h (.ref p) F _ ⟨Same.refl _, fun a o q n => ?_, fun a o q n => rfl, fun a o q => ?_⟩ (fun a o q => ?_) ⟨p, rfl, hp, .inl ⟨vs, upd_same, hF, r⟩⟩
  · rw [upd_ne (ne_of_none q hp)]; exact q
  · rw [upd_ne (ne_of_none q hp)]; exact ⟨o, q⟩
  · rw [upd_ne (ne_of_none (le _ _ q) hp)]; exact le _ _ q
def pDicOf : List PyData → Option Op
  | [.list ds] => (pairsD ds).map fun ps => .fr (.dict (mergeD [] ps))
  | _ => none
theorem pn_dicOf {K : PySem.W.Frag} : PN K (fun xs H Q => ∃ (a : Addr) (ps : List Addr) (kvs : List (Key × V)), xs = [.ref a] ∧ SqL K H a (ps.map V.ref) ∧ Paired (fun p kv => SqT K H p [kV kv.1, kv.2]) ps kvs ∧ ∀ p, H p = none → Q (.ref p) (upd H p (.dK (mergeK [] kvs)))) pDicOf := by
  intro F H xs ds o Q le rs ho q
  unfold pDicOf at ho
  split at ho
  · rename_i ds
    obtain ⟨v, rfl, a, ys, rfl, h1, r1⟩ := rds1 rs
    cases e : pairsD ds with
    | none => rw [e] at ho; cases ho
    | some ps =>
      rw [e] at ho
      cases ho
      obtain ⟨as, kvs, e1, e2, e3⟩ := pairsD_rp le r1 e
      subst e1
      exact ⟨a, as, kvs, rfl, h1, e2, fun p hp => gives_dic le (RpK.merge e3 .nil) hp q⟩
  · cases ho
end Py
end L2

namespace L2
open PySem PySem.Spec PyProof.Rows HT
/-! ## x[::-1] of a tuple, list(text) -/
section
variable {prog : Program} {w : World} {A : Around} {E : Value → Shared → Prop} {s : Shared}
theorem sliceApplied_back {sl : Addr} {vs : Value} {n : Nat} {Q : Int × Int × Nat → Shared → Prop} (hs : s.heap.IsSliceOf sl .none .none vs) (ps : IsPart vs (some (-1)))
    (h : Q ((n : Int) - 1, -1, n) s) : wpAny (model prog w) A (Builtin.Slice.sliceApplied (.ref sl) (pure (n : Int))) Q E s := by
  obtain ⟨os, hos, hcs, hds⟩ := id hs
  unfold Builtin.Slice.sliceApplied Builtin.Slice.sliceFields
  refine wpAny_bind (wpAny_bind (wpAny_field hos hds (x := .none) rfl (wpAny_bind (wpAny_field hos hds (x := .none) rfl (wpAny_bind (wpAny_field hos hds (x := vs) rfl (wpAny_pure ?_)))))))
  refine wpAny_bind (slicePart_ ps ?_)
  show wpAny _ _ (if ((-1 : Int) == 0) = true then _ else _) _ _ s
  rw [if_neg (by decide)]
  refine wpAny_bind (slicePart_none (wpAny_bind (slicePart_none (wpAny_bind (wpAny_pure ?_)))))
  show wpAny _ _ (match Builtin.Slice.sliceAdjust none none (-1) (n : Int) with | (lo, hi) => pure (lo, (-1 : Int), Builtin.Slice.slicePlaces lo hi (-1))) _ _ s
  have e : Builtin.Slice.sliceAdjust none none (-1) (n : Int) = ((n : Int) - 1, -1) := by
    unfold Builtin.Slice.sliceAdjust; simp
  rw [e]
  have e2 : Builtin.Slice.slicePlaces ((n : Int) - 1) (-1) (-1) = n := by
    unfold Builtin.Slice.slicePlaces
    simp only [show ¬ ((-1 : Int) > 0) by decide, if_false, show (- (-1) : Int) = 1 by decide, Int.ediv_one]
    split <;> omega
  show wpAny _ _ (pure ((n : Int) - 1, (-1 : Int), Builtin.Slice.slicePlaces ((n : Int) - 1) (-1) (-1))) _ _ s
  rw [e2]
  exact wpAny_pure h
theorem pick_back (xs : Array Value) : ((List.range xs.size).filterMap fun (m : Nat) => xs[((xs.size : Int) - 1 + (m : Int) * (-1)).toNat]?).toArray = xs.toList.reverse.toArray := by
  have e : ((List.range xs.size).filterMap fun (m : Nat) => xs[((xs.size : Int) - 1 + (m : Int) * (-1)).toNat]?) = ((List.range xs.size).map fun k => xs.size - 1 - k).filterMap (xs[·]?) := by
    rw [List.filterMap_map]
    congr 1
    funext m
    show xs[((xs.size : Int) - 1 + (m : Int) * (-1)).toNat]? = xs[xs.size - 1 - m]?
    rw [show ((xs.size : Int) - 1 + (m : Int) * (-1)).toNat = xs.size - 1 - m by omega]
  rw [e, PySem.W.krv_range, List.filterMap_reverse, PySem.W.krv_all]
theorem getItem_tuple_back {t sl : Addr} {items : Array Value} {vs : Value} {Q : Value → Shared → Prop} (ht : IsTup s.heap t items) (hs : s.heap.IsSliceOf sl .none .none vs) (ps : IsPart vs (some (-1)))
    (h : Q (.ref s.heap.objs.size) { s with heap := s.heap.push { cls := .type "tuple", data := .seq items.toList.reverse.toArray } })
    (hsz : items.size ≤ sizeLine) : wpAny (model prog w) A (getItem (.ref t) (.ref sl)) Q E s := by
  have htake : sizeOk (.seq items.toList.reverse.toArray) := by
    show items.toList.reverse.toArray.size ≤ sizeLine
    rw [List.size_toArray, List.length_reverse, Array.length_toList]
    exact hsz
  obtain ⟨os, hos, hcs, hds⟩ := id hs
  have hTs : s.TypeIs (.ref sl) "slice" := ⟨os, hos, hcs⟩
  unfold getItem
  try with_reducible refine wpAny_holding ?_
  first | refine wpAny_bind (wpAny_pure ?_) | skip
  refine wpAny_bind (wpAny_sequenceKey ht.typeIs (by decide) ?_)
  refine wpAny_bind (wpAny_callSpecial?_slot (name := Str.ofString "__getitem__") ht.typeIs PyProof.Rows.slot_tuple_getitem
    (wpAny_call_entry PyProof.Rows.slot_tuple_getitem ht.typeIs entry_tuple_getitem ?_ (args_tuple_getitem _ _)))
  show wpAny _ _ (Builtin.Tuple.tupleItemsOf (.ref t) >>= _) _ _ s
  refine wpAny_bind (tupleItemsOf_ ht ?_)
  refine wpAny_bind (wpAny_typeOf hTs ?_)
  rw [if_pos (by decide)]
  refine wpAny_bind (sliceApplied_back hs ps ?_)
  have hno : ¬ ((((items.size : Int) - 1) == 0 && (-1 : Int) == 1 && items.size == items.size) = true) := by
    intro q
    rw [Bool.and_eq_true, Bool.and_eq_true] at q
    exact absurd q.1.2 (by decide)
  show wpAny _ _ (if (((items.size : Int) - 1) == 0 && (-1 : Int) == 1 && items.size == items.size) = true then _ else _) _ _ s
  rw [if_neg hno, pick_back]
  first
    | exact wpAny_bind (m := Builtin.Tuple.tupleExact _) (wpAny_newObj_type (wpAny_pure ⟨_, rfl, wpAny_pure h⟩) htake)
    | exact wpAny_bind (m := Builtin.Tuple.tupleExact _) (wpAny_newObj_type (wpAny_bind (wpAny_pure (wpAny_pure ⟨_, rfl, wpAny_pure h⟩))) htake)
    | exact wpAny_bind (wpAny_bind (m := Builtin.Tuple.tupleExact _) (wpAny_newObj_type (wpAny_pure (wpAny_pure ⟨_, rfl, wpAny_pure h⟩)) htake))
    | exact wpAny_bind (wpAny_bind (m := Builtin.Tuple.tupleExact _) (wpAny_newObj_type (wpAny_pure ⟨_, rfl, wpAny_pure h⟩) htake))
end
section
variable {X : Cx}
def rRev2 (K : PySem.W.Frag) : V → Hp → VK → Prop := fun x H1 Q => (∃ a xs, x = .ref a ∧ SqL K H1 a xs ∧ ∀ p, H1 p = none → Q (.ref p) (upd H1 p (.lst xs.reverse))) ∨ (∃ a xs, x = .ref a ∧ SqT K H1 a xs ∧ Py.NwT H1 xs.reverse Q)
theorem pe_rev2 {e : Expr} {te : TE} {k : Nat} {p1 p2 p3 pos : Pos} (he : PE X e te) : PE X (.Subscript e (.Slice none none (some (.UnaryOp .USub (.Constant (.int 1) k p1) p2)) p3) pos) (tUn (rRev2 X.K) te) := by
  refine ⟨fun pins s σ H Q I h => ?_⟩
  refine Subscript_ (thn (he.run pins s σ H _ I h) fun v s1 ⟨x, H1, I1, r1, q1⟩ => ?_)
  have hst : PO X (some (.UnaryOp .USub (.Constant (.int 1) k p1) p2)) (tPart (tUn (rU fun i => .int (-i)) (tC (.int 1)))) := po_some (pe_un un_neg pe_int)
  refine wpAny_Slice (thn (po_none.run pins s1 σ H1 (fun o H2 => o = none ∧ H2 = H1) I1 ⟨rfl, rfl⟩) fun vl s2 ⟨l, H2, I2, pl, el, e2⟩ => ?_)
  subst el e2
  refine thn (po_none.run pins s2 σ H2 (fun o H3 => o = none ∧ H3 = H2) I2 ⟨rfl, rfl⟩) fun vu s3 ⟨u, H3, I3, pu, eu, e3⟩ => ?_
  subst eu e3
  refine thn (hst.run pins s3 σ H3 (fun o H4 => o = some (-1) ∧ H4 = H3) I3 ⟨1, rfl, -1, rfl, rfl, rfl⟩) fun vs s4 ⟨o, H4, I4, ps, eo, e4⟩ => ?_
  subst eo e4
  cases pl
  cases pu
  have I5 : Inv X pins σ H4 { s4 with heap := s4.heap.push { cls := .type "slice", data := .fields #[.none, .none, vs] } } := I4.kept (t' := s4.toks) fun b ob q => Heap.get?_push_of_some _ q
  rcases q1 with ⟨a, xs, ex, hx, q⟩ | ⟨a, xs, ex, hx, q⟩
  · subst ex
    cases r1
    obtain ⟨its, r, ht, hz⟩ := I5.list hx
    have hlen := r.length
    show wpAny (model X.prog X.w) X.A (subscriptTail e (.Slice none none (some (.UnaryOp .USub (.Constant (.int 1) k p1) p2)) p3) (.ref a) (.ref s4.heap.objs.size)) (EP X pins σ Q) X.xe { s4 with heap := s4.heap.push { cls := .type "slice", data := .fields #[.none, .none, vs] } }
    refine tail_any (ops := [.ref a, .ref s4.heap.objs.size]) ht.isList.typeIs (PySem.slot_list_getitem.lookup) ?_ (by with_unfolding_all rfl)
    refine wpAny_getItem_list_slice ht.isList (Heap.IsSliceOf.new _ .none .none vs) .none .none ps (by decide) ?_ (by rw [List.size_toArray]; omega)
    rw [PySem.W.krv_pick]
    refine ⟨.ref _, _, I5.laid (t' := s4.toks) (o := .lst xs.reverse) (fun b ob q => Heap.get?_push_of_some _ q) (Nat.le_refl _) ?_, rfl, q _ (I5.hok.fresh (Nat.le_refl _))⟩
    exact ⟨by rw [List.length_reverse]; exact hz, _, 0, r.reverse, Heap.get?_push_size _ rfl⟩
  · subst ex
    cases r1
    obtain ⟨its, r, ht, hz⟩ := I5.tuple hx
    have hlen := r.length
    show wpAny (model X.prog X.w) X.A (subscriptTail e (.Slice none none (some (.UnaryOp .USub (.Constant (.int 1) k p1) p2)) p3) (.ref a) (.ref s4.heap.objs.size)) (EP X pins σ Q) X.xe { s4 with heap := s4.heap.push { cls := .type "slice", data := .fields #[.none, .none, vs] } }
    refine tail_any (ops := [.ref a, .ref s4.heap.objs.size]) ht.typeIs (PyProof.Rows.slot_tuple_getitem.lookup) ?_ (by with_unfolding_all rfl)
    refine getItem_tuple_back ht (Heap.IsSliceOf.new _ .none .none vs) ps ?_ (by rw [List.size_toArray]; omega)
    exact Py.nw_laid (s := s4) (k := s4.toks) I5 r.reverse (by rw [List.length_reverse]; exact hz) q
/-- list(text) -/
def rListS : List V → Hp → VK → Prop := fun xs H Q => ∃ z : Str, xs = [.str z] ∧ z.cps.size ≤ sizeLine ∧ ∀ l, H l = none → Q (.ref l) (upd H l (.lst (z.cps.toList.map fun c => V.str ⟨#[c]⟩)))
theorem call_listS (hc : X.calm = true) : CallR X (.type "list") rListS := by
  intro pins s σ H xs us Q I r h
  obtain ⟨z, rfl, hz, q⟩ := h
  obtain ⟨u, rfl, t, rfl⟩ := vals1 r
  refine call_list_str (I.ok.hd hc) z t (fun h' tk acc c kp e it => ?_) hz
  refine ⟨.ref s.heap.objs.size, _, I.laid (t' := tk) kp (Nat.le_refl _) (show ObjOk X.prog X.w _ h' _ (.lst (z.cps.toList.map fun c => V.str ⟨#[c]⟩)) from ⟨by rw [List.length_map, Array.length_toList]; exact hz, acc.toList, c, ?_, by simpa using e⟩), rfl, q _ (I.hok.fresh (Nat.le_refl _))⟩
  obtain ⟨hs, hv⟩ := it
  have gen : ∀ (cs : List Nat) (vs : List Value), vs.length = cs.length → (∀ (j : Nat) (v : Value), vs[j]? = some v → ∃ c u, cs[j]? = some c ∧ v = .str ⟨#[c]⟩ u) → Vals (cs.map fun c => V.str ⟨#[c]⟩) vs := by
    intro cs
    induction cs with
    | nil => intro vs hl _; rw [List.length_nil] at hl; rw [List.eq_nil_of_length_eq_zero hl]; exact .nil
    | cons c cs ih =>
      intro vs hl hv
      cases vs with
      | nil => simp at hl
      | cons v vs =>
        obtain ⟨c', u, e1, e2⟩ := hv 0 v rfl
        cases e1
        subst e2
        exact .cons ⟨u, rfl⟩ (ih vs (by simpa using hl) fun j v h => hv (j + 1) v (by simpa using h))
  refine gen z.cps.toList acc.toList (by simpa using hs) fun j v h => ?_
  obtain ⟨c, u, e1, e2⟩ := hv j v (by simpa using h)
  exact ⟨c, u, by simpa using e1, e2⟩
end
namespace Py
section
variable {X : Cx} {W : XW} {pos : Pos} {a b c e : Expr} {f f1 f2 f3 : En → Res Op}
theorem de_isnotB (ha : DE X W a f1) (hb : DE X W b f2) : DE X W (.Compare a [.IsNot] [b] pos) (sP2 (pIsB not) f1 f2) := de_cmp op_isnot_bl p2_isB ha hb (nomark _)
def pRev2 : PyData → Option Op
  | .list ds => some (.fr (.list ds.reverse))
  | .tuple ds => some (.v (.tuple ds.reverse))
  | _ => none
theorem de_rev2 {p1 p2 p3 : Pos} {n : Nat} (ha : DE X W a f) : DE X W (.Subscript a (.Slice none none (some (.UnaryOp .USub (.Constant (.int 1) n p1) p2)) p3) pos) (sP1 pRev2 f) :=
  de_1 (r := rRev2 X.K) (by
    intro F H x d o Q le rx ho q
    unfold pRev2 at ho
    split at ho
    · cases ho
      obtain ⟨a, xs, rfl, h1, r1⟩ := rx
      exact .inl ⟨a, xs, rfl, h1, fun p hp => gives_lst le r1.reverse hp q⟩
    · cases ho
      obtain ⟨a, xs, rfl, h1, r1⟩ := rx
      exact .inr ⟨a, xs, rfl, same_sqT le h1.sq, gives_tup le r1.reverse q⟩
    · cases ho) (fun _ pa => pe_rev2 pa) ha
def strD (c : Nat) : PyData := .str ⟨#[c]⟩
def pLstS : List PyData → Option Op
  | [.str z] => if z.length ≤ sizeLine then some (.fr (.list (z.cps.toList.map strD))) else none
  | _ => none
theorem rpl_strs {K : PySem.W.Frag} {F : Hp} : ∀ cs : List Nat, RpL K F (cs.map fun c => V.str ⟨#[c]⟩) (cs.map strD)
  | [] => .nil
  | _ :: cs => .cons (.str _) (rpl_strs cs)
theorem pn_lstS {K : PySem.W.Frag} : PN K rListS pLstS := by
  intro F H xs ds o Q le rs ho q
  unfold pLstS at ho
  split at ho
  · rename_i z
    split at ho
    · rename_i hz
      cases ho
      obtain ⟨v, rfl, r⟩ := rds1 rs
      cases r
      exact ⟨z, rfl, hz, fun l hl => gives_lst le (rpl_strs _) hl q⟩
    · cases ho
  · cases ho
end
end Py
end L2

namespace L2
open PySem PySem.Spec PyProof.Rows HT
/-! ## text * n, int(text) -/
def repS (z : Str) (n : Nat) : Str := ⟨(List.replicate n z.cps).foldl (· ++ ·) #[]⟩
theorem repS_len (z : Str) (n : Nat) : (repS z n).length = n * z.length := by
  have go : ∀ (n : Nat) (acc : Array Nat), ((List.replicate n z.cps).foldl (· ++ ·) acc).size = acc.size + n * z.cps.size := by
    intro n
    induction n with
    | zero => intro acc; simp
    | succ n ih =>
      intro acc
      rw [List.replicate_succ, List.foldl_cons, ih, Array.size_append, Nat.succ_mul]
      omega
  show ((List.replicate n z.cps).foldl (· ++ ·) #[]).size = _
  rw [go]; simp; rfl
section
variable {X : Cx}
def rRepS : R2 := fun x y H Q => ∃ (z : Str) (n : Nat), x = .str z ∧ y = .int n ∧ 2 ≤ n ∧ n ≤ 1000 ∧ 1 ≤ z.length ∧ z.length ≤ 1000 ∧ Q (.str (repS z n)) H
theorem op_repS : OpR X (binaryOp .Mult) rRepS := by
  intro pins s σ H x y v u Q I rx ry h
  obtain ⟨z, n, rfl, rfl, h2, h3, h4, h5, q⟩ := h
  obtain ⟨t, rfl⟩ := rx
  obtain ⟨t', rfl⟩ := ry
  have hm : z.length * n ≤ 1000 * 1000 := Nat.mul_le_mul h5 h3
  have e1 : ¬ ((n : Int) < 1) := by omega
  have e2 : ((n : Int) == 1 || z.length == 0) = false := by simp; omega
  refine PySem.P.mul_str ?_ (fun _ _ => ?_) (fun _ _ => ?_) ?_
  · simp; omega
  · have : (1000 : Int) ≤ (2 ^ 63 - 1) / n := by
      rw [Int.le_ediv_iff_mul_le (by omega)]
      omega
    omega
  · have hz : z.length * n ≤ sizeLine := Nat.le_trans hm (by decide)
    simp only [Int.toNat_natCast, Builtin.Str.tooLong]
    simpa using hz
  · rw [if_neg e1, e2]
    have hl : (repS z n).length ≤ sizeLine := by rw [repS_len]; exact Nat.le_trans (by rw [Nat.mul_comm]; exact hm) (by decide)
    exact ⟨hl, .str (repS z n), H, I.tok _, ⟨_, rfl⟩, q⟩
end
namespace Py
section
variable {X : Cx} {W : XW} {pos : Pos} {a b : Expr} {f1 f2 : En → Res Op}
def pMulS : PyData → PyData → Option Op
  | .str z, .int i => if 2 ≤ i ∧ i ≤ 1000 ∧ 1 ≤ z.length ∧ z.length ≤ 1000 then some (.v (.str (repS z i.toNat))) else none
  | _, _ => none
theorem p2_mulS {K : PySem.W.Frag} : P2 K rRepS pMulS := by
  intro F H x y d e o Q le rx ry ho q
  unfold pMulS at ho
  split at ho
  · split at ho
    · rename_i h
      cases ho
      cases rx
      cases ry
      refine ⟨_, _, rfl, ?_, ?_, ?_, h.2.2.1, h.2.2.2, gives_v le (.str _) q⟩
      · rw [Int.toNat_of_nonneg (by omega)]
      · omega
      · omega
    · cases ho
  · cases ho
theorem de_mulS (ha : DE X W a f1) (hb : DE X W b f2) : DE X W (.BinOp a .Mult b pos) (sP2 pMulS f1 f2) := de_op op_repS p2_mulS ha hb
def pIntS : List PyData → Option Op
  | [.str a] => if a.length ≤ 640 then (intText? a).map fun n => .v (.int n) else none
  | _ => none
theorem pn_intS {K : PySem.W.Frag} : PN K (fun xs H Q => ∃ a n, xs = [.str a] ∧ PySem.intText? a = some n ∧ a.length ≤ 640 ∧ Q (.int n) H) pIntS := by
  intro F H xs ds o Q le rs ho q
  unfold pIntS at ho
  split at ho
  · split at ho
    · rename_i hz
      obtain ⟨v, rfl, r⟩ := rds1 rs
      cases r
      rw [Option.map_eq_some_iff] at ho
      obtain ⟨n, e, rfl⟩ := ho
      exact ⟨_, n, rfl, e, hz, gives_v le (.int _) q⟩
    · cases ho
  · cases ho
end
end Py
end L2

namespace L2
open PySem PySem.Spec PyProof.Rows HT
namespace Py
/-! ## while, by so many turns at most -/
def whB (b k : En → Out) : En → Out := fun ρ => match b ρ with
  | .nx ρ2 => k ρ2
  | .ct ρ2 => k ρ2
  | .bk ρ2 => .nx ρ2
  | o => o
def sWhile : Nat → (En → Res Bool) → (En → Out) → En → Out
  | 0, _, _ => fun _ => .bad
  | n + 1, t, b => andS t fun c => if c = true then whB b (sWhile n t b) else fun ρ => .nx ρ
section
variable {X : Cx} {W : XW} {pos : Pos} {t : En → Res Bool} {b : En → Out} {c : Expr} {body : List Stmt}
theorem ds_while (n : Nat) (hp : PassesOwn (model X.prog X.w) X.A X.env X.xe) (hc : DT X W c t) (hb : DSs X W body b) : DS X W (.While c body [] pos) (sWhile n t b) := by
  obtain ⟨tc, pc, qc⟩ := hc.ex
  obtain ⟨tb, pb, qb⟩ := hb.ex
  refine ⟨_, ps_while hp pc pb, fun σ F H ρ D E h => ⟨fun m σ' H' => ∃ F' ρ', EnvR X.K F' H' σ' ρ' ∧ PostS X.K W σ' ρ' F' H' (sWhile m t b ρ') D, ⟨n, F, ρ, E, h⟩, fun m σ H w => ?_⟩⟩
  obtain ⟨F, ρ, E, h⟩ := w
  cases m with
  | zero => exact h.elim
  | succ m =>
    refine qc σ F H ρ _ E (PostS.expr h fun c ρ1 F1 H1 _ g h1 => ?_)
    cases c with
    | false =>
      have h1 := h1.go g.go
      simp only [Bool.false_eq_true, if_false] at h1 ⊢
      exact h1 σ F1 H1 (Go.refl g.env)
    | true =>
      have h1 := h1.go g.go
      simp only [if_true] at h1 ⊢
      refine ⟨fun σ' H' => ∃ F' ρ', EnvR X.K F' H' σ' ρ' ∧ PostS X.K W σ' ρ' F' H' (sWhile m t b ρ') D, fun σ' H' z => ⟨m, Nat.lt_succ_self _, z⟩, ?_⟩
      refine qb σ F1 H1 ρ1 _ g.env ?_
      unfold whB at h1
      cases e : b ρ1 with
      | nx ρ2 => rw [e] at h1; exact fun σ' F' H' k => ⟨F', ρ2, k.env, h1.go k⟩
      | ct ρ2 => rw [e] at h1; exact fun σ' F' H' k => ⟨F', ρ2, k.env, h1.go k⟩
      | bk ρ2 => rw [e] at h1; exact h1
      | rt r ρ2 => rw [e] at h1; exact h1
      | rd cs ρ2 => rw [e] at h1; exact h1
      | exc c ρ2 => rw [e] at h1; exact h1
      | bad => rw [e] at h1; exact h1
/-! ## what is never reached -/
def sBad : En → Out := fun _ => .bad
theorem ds_never {st : Stmt} : DS X W st sBad := ⟨fun _ _ _ => False, ⟨fun _ _ _ _ _ _ h => h.elim⟩, fun _ _ _ _ _ _ z => z.elim⟩
def sBadE : En → Res Op := fun _ => .bad
theorem de_never {e : Expr} : DE X W e sBadE := ⟨fun _ _ _ => False, ⟨fun _ _ _ _ _ _ h => h.elim⟩, fun _ _ _ _ _ _ z => z.elim⟩
end
/-! ## texts: str(x), y.join(xs), x.split(y), x.startswith(y) -/
def pStrOf : List PyData → Option Op
  | [.int i] => if i.natAbs.log2 < 1920 then some (.v (.str (Str.ofString (toString i)))) else none
  | [.str a] => some (.v (.str a))
  | _ => none
theorem pn_strOf {K : PySem.W.Frag} : PN K (fun xs H Q => (∃ i, xs = [.int i] ∧ i.natAbs.log2 < 1920 ∧ Q (.str (toString i)) H) ∨ ∃ a, xs = [.str a] ∧ Q (.str a) H) pStrOf := by
  intro F H xs ds o Q le rs ho q
  unfold pStrOf at ho
  split at ho
  · split at ho
    · rename_i h
      cases ho
      obtain ⟨v, rfl, r⟩ := rds1 rs
      cases r
      exact .inl ⟨_, rfl, h, gives_v le (.str _) q⟩
    · cases ho
  · cases ho
    obtain ⟨v, rfl, r⟩ := rds1 rs
    cases r
    exact .inr ⟨_, rfl, gives_v le (.str _) q⟩
  · cases ho
/-- a text's method of one argument -/
def sM1 (p : Str → PyData → Option Op) (f g : En → Res Op) : En → Res Op := bnd f fun o1 => bnd (rdd o1) fun d => match d with
  | .str z => bnd g fun o2 => bnd (rdd o2) fun e => opt (p z e)
  | _ => fun _ => .bad
def PM1 (K : PySem.W.Frag) (r : V → List V → Hp → VK → Prop) (p : Str → PyData → Option Op) : Prop := ∀ F H z y e o Q, Same F H → Rd1 K F H y e → p z e = some o → Gives K F H o Q → r (.str z) [y] H Q
section
variable {X : Cx} {W : XW} {pos apos : Pos} {a b : Expr} {f g : En → Res Op} {r : V → List V → Hp → VK → Prop} {p : Str → PyData → Option Op} {e : Expr}
theorem de_M1 (hp : PM1 X.K r p) (mk : ∀ ta tb, PE X a ta → PE X b tb → PE X e (tM1 r ta tb)) (ha : DE X W a f) (hb : DE X W b g) : DE X W e (sM1 p f g) := by
  obtain ⟨ta, pa, sa⟩ := ha.ex
  obtain ⟨tb, pb, sb⟩ := hb.ex
  refine ⟨_, mk ta tb pa pb, fun σ F H ρ Q E h => sa σ F H ρ _ E (h.split.imp fun o1 ρ1 F1 H1 _ g1 h1 v1 r1 => ?_)⟩
  obtain ⟨d, e1, h2⟩ := post_rdd g1.env h1
  have rx := r1.rd1 g1.env e1
  cases d with
  | str z =>
    cases rx
    refine ⟨⟨z, rfl⟩, sb σ F1 H1 ρ1 _ g1.env (h2.split.imp fun o2 ρ2 F2 H2 _ g2 h3 v2 r2 => ?_)⟩
    obtain ⟨d2, e2, h4⟩ := post_rdd g2.env h3
    obtain ⟨o, e3, gv⟩ := post_opt g2.env (g1.trans g2).go.evo.dom h4
    exact hp F2 H2 z v2 d2 o Q g2.env.le ((r2.early g1.go.evo.dom).rd1 g2.env e2) e3 gv
  | _ => exact h2.elim
def strsD : List PyData → Option (List Str)
  | [] => some []
  | .str z :: ds => (strsD ds).map (z :: ·)
  | _ :: _ => none
theorem strsD_rp {K : PySem.W.Frag} {F : Hp} : ∀ {xs : List V} {ds : List PyData} {ns : List Str}, RpL K F xs ds → strsD ds = some ns → xs = ns.map V.str
  | _, _, ns, .nil, e => by cases e; rfl
  | _, _, ns, .cons h t, e => by
    cases h with
    | str x =>
      simp only [strsD, Option.map_eq_some_iff] at e
      obtain ⟨m, e, rfl⟩ := e
      rw [strsD_rp t e]; rfl
    | _ => cases e
theorem strsD_map : ∀ zs : List Str, strsD (zs.map PyData.str) = some zs
  | [] => rfl
  | z :: zs => by rw [List.map_cons, strsD, strsD_map zs]; rfl
theorem rpl_strs2 {K : PySem.W.Frag} {F : Hp} : ∀ zs : List Str, RpL K F (zs.map V.str) (zs.map PyData.str)
  | [] => .nil
  | _ :: zs => .cons (.str _) (rpl_strs2 zs)
def joinP (a : Str) (ds : List PyData) : Option Op := match strsD ds with
  | some ys => if (ys.map (·.length)).sum + ys.length * a.length ≤ 16777216 then some (.v (.str (Txt.join a ys))) else none
  | none => none
def pJoin (a : Str) : PyData → Option Op
  | .list ds => joinP a ds
  | .tuple ds => joinP a ds
  | _ => none
theorem pm_join : PM1 X.K (fun x xs H Q => ∃ a p, ∃ ys : List Str, x = .str a ∧ xs = [.ref p] ∧ (SqL X.K H p (ys.map V.str) ∨ SqT X.K H p (ys.map V.str)) ∧ (ys.map (·.length)).sum + ys.length * a.length ≤ 16777216 ∧ Q (.str (Txt.join a ys)) H) pJoin := by
  intro F H z y e o Q le ry ho q
  have core : ∀ (a : Addr) (xs : List V) (ds : List PyData), (SqL X.K H a xs ∨ SqT X.K H a xs) → RpL X.K F xs ds → joinP z ds = some o → ∃ (a_1 : Str) (p : Addr) (ys : List Str), V.str z = .str a_1 ∧ [V.ref a] = [.ref p] ∧ (SqL X.K H p (ys.map V.str) ∨ SqT X.K H p (ys.map V.str)) ∧ (ys.map (·.length)).sum + ys.length * a_1.length ≤ 16777216 ∧ Q (.str (Txt.join a_1 ys)) H := by
    intro a xs ds hs r1 ho
    unfold joinP at ho
    split at ho
    · rename_i ys ey
      split at ho
      · rename_i hl
        cases ho
        have ex := strsD_rp r1 ey
        subst ex
        exact ⟨z, a, ys, rfl, rfl, hs, hl, gives_v le (.str _) q⟩
      · cases ho
    · cases ho
  cases e with
  | list ds =>
    obtain ⟨a, xs, rfl, h1, r1⟩ := ry
    exact core a xs ds (.inl h1) r1 ho
  | tuple ds =>
    obtain ⟨a, xs, rfl, h1, r1⟩ := ry
    exact core a xs ds (.inr (same_sqT le h1.sq)) r1 ho
  | _ => cases ho
theorem de_join (ha : DE X W a f) (hb : DE X W b g) (hs : starEach [b] X.env = [(false, eval b X.env)] := by rfl) (hbase : attributeBase a "join" X.env (eval a X.env) = eval a X.env := by rfl) (hline : (apos.endLine == pos.line) = true := by rfl) :
    DE X W (.Call (.Attribute a "join" apos) [b] [] pos) (sM1 pJoin f g) := de_M1 pm_join (fun _ _ pa pb => pe_join pa pb hs hbase hline) ha hb
def pSplit (a : Str) : PyData → Option Op
  | .str b => if (b.length == 0) = false ∧ a.length + 2 ≤ sizeLine then some (.fr (.list ((Txt.split a b).map PyData.str))) else none
  | _ => none
theorem pm_split : PM1 X.K (fun x xs H Q => ∃ a b, x = .str a ∧ xs = [.str b] ∧ (b.length == 0) = false ∧ a.length + 2 ≤ sizeLine ∧ rNewStrs (Txt.split a b) H Q) pSplit := by
  intro F H z y e o Q le ry ho q
  unfold pSplit at ho
  split at ho
  · split at ho
    · rename_i h
      cases ho
      cases ry
      exact ⟨z, _, rfl, rfl, h.1, h.2, fun p hp => gives_lst le (rpl_strs2 _) hp q⟩
    · cases ho
  · cases ho
theorem de_split (ha : DE X W a f) (hb : DE X W b g) (hs : starEach [b] X.env = [(false, eval b X.env)] := by rfl) (hbase : attributeBase a "split" X.env (eval a X.env) = eval a X.env := by rfl) (hline : (apos.endLine == pos.line) = true := by rfl) :
    DE X W (.Call (.Attribute a "split" apos) [b] [] pos) (sM1 pSplit f g) := de_M1 pm_split (fun _ _ pa pb => pe_split pa pb hs hbase hline) ha hb
def pStarts (a : Str) : PyData → Option Op
  | .str b => some (.v (.bool (Txt.startswith a b)))
  | _ => none
theorem pm_starts : PM1 X.K (fun x xs H Q => ∃ a b, x = .str a ∧ xs = [.str b] ∧ Q (.bl (Txt.startswith a b)) H) pStarts := by
  intro F H z y e o Q le ry ho q
  unfold pStarts at ho
  split at ho
  · cases ho
    cases ry
    exact ⟨z, _, rfl, rfl, gives_v le (.bl _) q⟩
  · cases ho
theorem de_starts (ha : DE X W a f) (hb : DE X W b g) (hs : starEach [b] X.env = [(false, eval b X.env)] := by rfl) (hbase : attributeBase a "startswith" X.env (eval a X.env) = eval a X.env := by rfl) (hline : (apos.endLine == pos.line) = true := by rfl) :
    DE X W (.Call (.Attribute a "startswith" apos) [b] [] pos) (sM1 pStarts f g) := de_M1 pm_starts (fun _ _ pa pb => pe_m1 F.slot_str_startswith F.type_str_startswith mt_startswith pa pb hs hbase hline) ha hb
end
/-! ## a text is walked -/
def sItrS (f : En → Res Op) : En → Res (List PyData × List Op) := bnd f fun o => bnd (rdd o) fun d ρ => match d with
  | .str z => .ok (z.cps.toList.map strD, []) ρ
  | _ => .bad
theorem itok_str {K : PySem.W.Frag} {F H : Hp} {A : Addr → Prop} (x : Str) : ItOk K A F H (Its x) (x.cps.toList.map strD) := ⟨fun F2 H2 s1 s2 k => by
  refine ⟨?_, fun i d hd => ?_⟩
  · show x.cps.size ≤ (x.cps.toList.map strD).length
    rw [List.length_map, Array.length_toList]; exact Nat.le_refl _
  · rw [List.getElem?_map, Option.map_eq_some_iff] at hd
    obtain ⟨c, hc, rfl⟩ := hd
    have hc' : x.cps[i]? = some c := by simpa using hc
    refine ⟨(Array.getElem?_eq_some_iff.mp hc').1, fun v H3 y => ?_⟩
    obtain ⟨e, c', h2, rfl⟩ := y
    subst e
    rw [hc'] at h2
    cases h2
    exact ⟨F2, .refl, s2, .str _⟩⟩
theorem di_str {X : Cx} {W : XW} {tg l : Expr} {f : En → Res Op} (ha : DE X W l f) : DI X W tg l (sItrS f) := by
  obtain ⟨ta, pa, sa⟩ := ha.ex
  refine ⟨_, pi_str pa, fun σ F H ρ R E h => sa σ F H ρ _ E (h.fst fun o ρ1 F1 H1 _ g1 h1 v r1 => ?_)⟩
  have h1 := h1.at' g1
  obtain ⟨d, e1, h2⟩ := post_rdd g1.env h1
  have rx := r1.rd1 g1.env e1
  cases d with
  | str z =>
    cases rx
    exact ⟨z, rfl, h2 F1 H1 (.refl g1.env) (Its z) (fun _ => False) [] trivial (fun _ m => nomatch m) (fun _ z => z.elim) (itok_str z)⟩
  | _ => exact h2.elim
/-! ## what stands at the module's top: a tuple of texts, a dict from texts to ints -/
def TupC (K : PySem.W.Frag) (mg : Str → Option Value) (x : Str) (zs : List Str) : Prop := ∃ (a : Addr) (o : Obj) (its : Array Value) (n : Nat), mg x = some (.ref a) ∧ K.lookup a = some o ∧ o.cls = .type "tuple" ∧ o.data = .seq its n ∧ its.size ≤ sizeLine ∧ Vals (zs.map V.str) its.toList
def EntOk (p : Str × Int) (e : DictEntry) : Prop := (∃ t, e.key = .str p.1 t) ∧ ∃ t, e.val = .int p.2 t
inductive EntsOk : List (Str × Int) → List DictEntry → Prop
  | nil : EntsOk [] []
  | cons {p : Str × Int} {e : DictEntry} {ps : List (Str × Int)} {es : List DictEntry} : EntOk p e → EntsOk ps es → EntsOk (p :: ps) (e :: es)
def DicC (K : PySem.W.Frag) (w : World) (mg : Str → Option Value) (x : Str) (kvs : List (Str × Int)) : Prop := ∃ (d : Addr) (es : Array DictEntry) (n : Nat), mg x = some (.ref d) ∧ KDict K w d es n ∧ EntsOk kvs es.toList
def lookS (kvs : List (Str × Int)) (z : Str) : Option Int := (kvs.find? fun p => p.1 == z).map (·.2)
theorem ents_find {z : Str} : ∀ {kvs : List (Str × Int)} {es : List DictEntry}, EntsOk kvs es → (match es.find? (·.key.isStr z) with | some e => ∃ i t, lookS kvs z = some i ∧ e.val = .int i t | none => lookS kvs z = none) ∧ es.any (·.refKey) = false
  | _, _, .nil => ⟨rfl, rfl⟩
  | p :: ps, e :: es, .cons ⟨⟨t, hk⟩, u, hv⟩ r => by
    have ih := ents_find (z := z) r
    have e1 : e.key.isStr z = (p.1 == z) := by
      rw [hk]
      show decide (p.1 = z) = _
      rw [Bool.eq_iff_iff]; simp
    have e2 : e.refKey = false := by
      show DictEntry.refKey e = false
      unfold DictEntry.refKey
      rw [hk]
    constructor
    · rw [List.find?_cons, e1]
      unfold lookS
      rw [List.find?_cons]
      cases hq : p.1 == z with
      | true => exact ⟨p.2, u, rfl, hv⟩
      | false => exact ih.1
    · rw [List.any_cons, e2, ih.2]; rfl
theorem ns_look {K : PySem.W.Frag} {w : World} {d : Addr} {es : Array DictEntry} {n : Nat} {kvs : List (Str × Int)} (D : KDict K w d es n) (h : EntsOk kvs es.toList) (z : Str) : ∃ r : Option Value, PySem.W.nsIn K d z = some r ∧ r.isSome = (lookS kvs z).isSome ∧ ∀ i, lookS kvs z = some i → ∃ t, r = some (.int i t) := by
  obtain ⟨h1, h2⟩ := ents_find (z := z) h
  unfold PySem.W.nsIn
  rw [D.at_]
  cases q : es.toList.find? (·.key.isStr z) with
  | some e =>
    rw [q] at h1
    obtain ⟨i, t, h3, h4⟩ := h1
    refine ⟨some e.val, by simp only [q], by rw [h3]; rfl, fun j hj => ⟨t, ?_⟩⟩
    rw [h3] at hj; cases hj; rw [h4]
  | none =>
    rw [q] at h1
    refine ⟨none, by simp only [q, h2]; rfl, by rw [h1]; rfl, fun j hj => ?_⟩
    rw [h1] at hj; cases hj
section
variable {X : Cx} {W : XW} {pos p : Pos} {a : Expr} {f : En → Res Op} {x : Str}
theorem de_globT {zs : List Str} (hg : Gl X x) (hm : TupC X.K X.mg x zs) (hd : (x == ("__debug__" : Str)) = false := by decide) (off : plainOn = false := by rfl) : DE X W (.Name x pos) (sC (.tuple (zs.map PyData.str))) := by
  obtain ⟨b, o, its, n, h1, h2, h3, h4, h5, h6⟩ := hm
  exact ⟨_, pe_glob hg h1 (v := .ref b) rfl hd, fun σ F H ρ Q E hp => hp F H (.refl E) (.ref b) (.tup (sqP_off off (.inr ⟨o, its, n, h2, h3, h4, h5, h6⟩)) (rpl_strs2 zs))⟩
def pInC (kvs : List (Str × Int)) (n : Bool → Bool) : PyData → Option Op
  | .str z => some (.v (.bool (n (lookS kvs z).isSome)))
  | _ => none
def pIxC (kvs : List (Str × Int)) : PyData → Option Op
  | .str z => (lookS kvs z).map fun i => .v (.int i)
  | _ => none
theorem de_inC {kvs : List (Str × Int)} (hg : Gl X x) (hm : DicC X.K X.w X.mg x kvs) (ha : DE X W a f) (hmk : behindInMarks .In (.Name x p) = false := by rfl) (hd : (x == ("__debug__" : Str)) = false := by decide) : DE X W (.Compare a [.In] [.Name x p] pos) (sP1 (pInC kvs id) f) := by
  obtain ⟨d, es, n, h1, D, h2⟩ := hm
  refine de_1 (r := fun x H Q => ∃ (z : Str) (r : Option Value), x = .str z ∧ V.ref d = .ref d ∧ PySem.W.nsIn X.K d z = some r ∧ Q (.bl r.isSome) H) ?_ (fun ta pa => pe_cmpR (op_in_kd D) pa (pe_glob hg h1 (v := .ref d) rfl hd) hmk) ha
  intro F H x e o Q le rx ho q
  cases e with
  | str z =>
    cases ho
    cases rx
    obtain ⟨r, h3, h4, _⟩ := ns_look D h2 z
    rw [id_eq, ← h4] at q
    exact ⟨z, r, rfl, rfl, h3, gives_v le (.bl _) q⟩
  | _ => cases ho
theorem de_notinC {kvs : List (Str × Int)} (hg : Gl X x) (hm : DicC X.K X.w X.mg x kvs) (ha : DE X W a f) (hmk : behindInMarks .NotIn (.Name x p) = false := by rfl) (hd : (x == ("__debug__" : Str)) = false := by decide) : DE X W (.Compare a [.NotIn] [.Name x p] pos) (sP1 (pInC kvs not) f) := by
  obtain ⟨d, es, n, h1, D, h2⟩ := hm
  refine de_1 (r := fun x H Q => ∃ (z : Str) (r : Option Value), x = .str z ∧ V.ref d = .ref d ∧ PySem.W.nsIn X.K d z = some r ∧ Q (.bl (!r.isSome)) H) ?_ (fun ta pa => pe_cmpR (op_notIn_kd D) pa (pe_glob hg h1 (v := .ref d) rfl hd) hmk) ha
  intro F H x e o Q le rx ho q
  cases e with
  | str z =>
    cases ho
    cases rx
    obtain ⟨r, h3, h4, _⟩ := ns_look D h2 z
    rw [← h4] at q
    exact ⟨z, r, rfl, rfl, h3, gives_v le (.bl _) q⟩
  | _ => cases ho
theorem de_ixC {kvs : List (Str × Int)} (hg : Gl X x) (hm : DicC X.K X.w X.mg x kvs) (ha : DE X W a f) (hpl : PlainIx a) (hd : (x == ("__debug__" : Str)) = false := by decide) : DE X W (.Subscript (.Name x p) a pos) (sP1 (pIxC kvs) f) := by
  obtain ⟨d, es, n, h1, D, h2⟩ := hm
  refine de_1 (r := fun y H Q => rIxD X.K X.w (.ref d) y H Q) ?_ (fun ta pa => pe_ix ix_kdict (pe_glob hg h1 (v := .ref d) rfl hd) pa hpl) ha
  intro F H x e o Q le rx ho q
  cases e with
  | str z =>
    have ho : (lookS kvs z).map (fun i => Op.v (.int i)) = some o := ho
    rw [Option.map_eq_some_iff] at ho
    obtain ⟨i, hi, rfl⟩ := ho
    cases rx
    obtain ⟨r, h3, h4, h5⟩ := ns_look D h2 z
    obtain ⟨t, rfl⟩ := h5 i hi
    exact ⟨d, z, .int i, rfl, rfl, ⟨es, n, _, D.at_, D.lit, h3, ⟨t, rfl⟩⟩, gives_v le (.int _) q⟩
  | _ => cases ho
/-- a test of one operand, against what stands at the top -/
theorem dt_one {op : CmpOp} {r : R2} {d : Addr} {b : Expr} {p1 : PyData → Option Op} (hp : P1 X.K (fun x H Q => r x (.ref d) H Q) p1) (ho : OpR X (compareOp op) r) (ha : DE X W a f) (hb : PE X b (tC (.ref d))) (hm : behindInMarks op b = false) : DT X W (.Compare a [op] [b] pos) (sTest (sP1 p1 f)) := by
  obtain ⟨ta, pa, sa⟩ := ha.ex
  refine ⟨_, pt_cmpR ho pa hb hm, fun σ F H ρ Q E h => ?_⟩
  refine sa σ F H ρ _ E ((h.split (m := sP1 p1 f)).split.imp fun o1 ρ1 F1 H1 _ g1 h1 v1 r1 => ?_)
  obtain ⟨d1, e1, h3⟩ := post_rdd g1.env h1
  cases q : p1 d1 with
  | none => rw [q] at h3; exact h3.elim
  | some o =>
    rw [q] at h3
    refine hp F1 H1 v1 d1 o _ g1.env.le (r1.rd1 g1.env e1) q fun v F' H' ev le r => ?_
    have g3 : GoE X.K σ ρ1 F1 H1 ρ1 F' H' := GoE.news g1.env ev le
    have h4 : ∀ F' H', GoE X.K σ ρ1 F1 H1 ρ1 F' H' → Post X.K W σ ρ1 F' H' (bnd (bl o) (fun b ρ => .ok b ρ) ρ1) fun b _ _ H' => Q b H' := h3
    obtain ⟨b, e3, h5⟩ := post_bl g3.env (odr_nil r) (h4 F' H' g3)
    exact ⟨b, e3, h5 F' H' (.refl g3.env)⟩
theorem p1_inC {kvs : List (Str × Int)} {d : Addr} {es : Array DictEntry} {n : Nat} (D : KDict X.K X.w d es n) (h2 : EntsOk kvs es.toList) : P1 X.K (fun x H Q => ∃ (z : Str) (r : Option Value), x = .str z ∧ V.ref d = .ref d ∧ PySem.W.nsIn X.K d z = some r ∧ Q (.bl r.isSome) H) (pInC kvs id) := by
  intro F H x e o Q le rx ho q
  cases e with
  | str z =>
    cases ho
    cases rx
    obtain ⟨r, h3, h4, _⟩ := ns_look D h2 z
    rw [id_eq, ← h4] at q
    exact ⟨z, r, rfl, rfl, h3, gives_v le (.bl _) q⟩
  | _ => cases ho
theorem p1_notinC {kvs : List (Str × Int)} {d : Addr} {es : Array DictEntry} {n : Nat} (D : KDict X.K X.w d es n) (h2 : EntsOk kvs es.toList) : P1 X.K (fun x H Q => ∃ (z : Str) (r : Option Value), x = .str z ∧ V.ref d = .ref d ∧ PySem.W.nsIn X.K d z = some r ∧ Q (.bl (!r.isSome)) H) (pInC kvs not) := by
  intro F H x e o Q le rx ho q
  cases e with
  | str z =>
    cases ho
    cases rx
    obtain ⟨r, h3, h4, _⟩ := ns_look D h2 z
    rw [← h4] at q
    exact ⟨z, r, rfl, rfl, h3, gives_v le (.bl _) q⟩
  | _ => cases ho
theorem dt_inC {kvs : List (Str × Int)} (hg : Gl X x) (hm : DicC X.K X.w X.mg x kvs) (ha : DE X W a f) (hmk : behindInMarks .In (.Name x p) = false := by rfl) (hd : (x == ("__debug__" : Str)) = false := by decide) : DT X W (.Compare a [.In] [.Name x p] pos) (sTest (sP1 (pInC kvs id) f)) := by
  obtain ⟨d, es, n, h1, D, h2⟩ := hm
  exact dt_one (p1_inC D h2) (op_in_kd D) ha (pe_glob hg h1 (v := .ref d) rfl hd) hmk
theorem dt_notinC {kvs : List (Str × Int)} (hg : Gl X x) (hm : DicC X.K X.w X.mg x kvs) (ha : DE X W a f) (hmk : behindInMarks .NotIn (.Name x p) = false := by rfl) (hd : (x == ("__debug__" : Str)) = false := by decide) : DT X W (.Compare a [.NotIn] [.Name x p] pos) (sTest (sP1 (pInC kvs not) f)) := by
  obtain ⟨d, es, n, h1, D, h2⟩ := hm
  exact dt_one (p1_notinC D h2) (op_notIn_kd D) ha (pe_glob hg h1 (v := .ref d) rfl hd) hmk
end
end Py
end L2

namespace L2
namespace Py
open PySem PySem.Spec PyProof.Rows
/-! ## two readings of one text: the second where the first does not say -/
def orS (s1 s2 : En → Out) : En → Out := fun ρ => match s1 ρ with
  | .bad => s2 ρ
  | o => o
section
variable {X : Cx} {W : XW}
theorem dss_or {b : List Stmt} {s1 s2 : En → Out} (h1 : DSs X W b s1) (h2 : DSs X W b s2) : DSs X W b (orS s1 s2) := by
  obtain ⟨t1, p1, q1⟩ := h1.ex
  obtain ⟨t2, p2, q2⟩ := h2.ex
  refine ⟨fun D σ H => t1 D σ H ∨ t2 D σ H, ⟨fun pins s σ H D I h => ?_⟩, fun σ F H ρ D E h => ?_⟩
  · rcases h with h | h
    · exact p1.run pins s σ H D I h
    · exact p2.run pins s σ H D I h
  · unfold orS at h
    cases e : s1 ρ with
    | bad => simp only [e] at h; exact .inr (q2 σ F H ρ D E h)
    | nx ρ' => simp only [e] at h; exact .inl (q1 σ F H ρ D E (by rw [e]; exact h))
    | bk ρ' => simp only [e] at h; exact .inl (q1 σ F H ρ D E (by rw [e]; exact h))
    | ct ρ' => simp only [e] at h; exact .inl (q1 σ F H ρ D E (by rw [e]; exact h))
    | rt r ρ' => simp only [e] at h; exact .inl (q1 σ F H ρ D E (by rw [e]; exact h))
    | rd cs ρ' => simp only [e] at h; exact .inl (q1 σ F H ρ D E (by rw [e]; exact h))
    | exc c ρ' => simp only [e] at h; exact .inl (q1 σ F H ρ D E (by rw [e]; exact h))
theorem dss_never {b : List Stmt} : DSs X W b sBad := ⟨fun _ _ _ => False, ⟨fun _ _ _ _ _ _ h => h.elim⟩, fun _ _ _ _ _ _ z => z.elim⟩
/-- which reading: by the truth in slot k -/
def slotB (k : Nat) (ρ : En) : Bool := match ρ[k]? with
  | some (.val (.bool b)) => b
  | _ => false
def sPick (k : Nat) (s1 s2 : En → Out) : En → Out := fun ρ => if slotB k ρ = true then s1 ρ else s2 ρ
theorem dss_pick {k : Nat} {b : List Stmt} {s1 s2 : En → Out} (h1 : DSs X W b s1) (h2 : DSs X W b s2) : DSs X W b (sPick k s1 s2) := by
  obtain ⟨t1, p1, q1⟩ := h1.ex
  obtain ⟨t2, p2, q2⟩ := h2.ex
  refine ⟨fun D σ H => t1 D σ H ∨ t2 D σ H, ⟨fun pins s σ H D I h => ?_⟩, fun σ F H ρ D E h => ?_⟩
  · rcases h with h | h
    · exact p1.run pins s σ H D I h
    · exact p2.run pins s σ H D I h
  · unfold sPick at h
    split at h
    · exact .inl (q1 σ F H ρ D E h)
    · exact .inr (q2 σ F H ρ D E h)
/-! a told pair of lists is looked at, both lists changed, and it is looked at no more -/
def two (cs : Cs) : Bool := match cs with
  | [(true, .list _), (true, .list ds)] => decide (ds.length < sizeLine)
  | _ => false
def blk2K (j : Nat) (t0 t : En → Res Bool) (d1 : PyData) (cs : Cs) (ρ1 : En) : Out :=
  match ρ1[j]? with
  | some s => if s.free = true then (match t0 (peek j cs ρ1) with
    | .ok false _ => (match t (peek j cs ρ1) with
      | .ok true _ => .rt (.v d1) (ρ1.set j .no)
      | .ok false _ => if two cs = true then .nx (ρ1.set j .no) else .bad
      | _ => .bad)
    | _ => .bad) else .bad
  | none => .bad
def sBlk2 (j : Nat) (fc : En → Res Cs) (t0 t : En → Res Bool) (d1 : PyData) : En → Out := andS fc (blk2K j t0 t d1)
theorem blk2_core {j : Nat} {f : En → Res Cs} {t0 t : En → Res Bool} {d1 : PyData} {i : Int} {te : TE} {tt0 tt : TT} {t00 t1 : TS}
    (qe : ∀ (σ : St) (F H : Hp) (ρ : En) (Q : VK), EnvR X.K F H σ ρ → Post X.K W σ ρ F H (f ρ) (fun cs _ F' H' => ∀ v, RdR X.K (fun b => H b = none) F' H' v cs → Q v H') → te σ H Q)
    (qt0 : ∀ (σ : St) (F H : Hp) (ρ : En) (Q : Bool → Hp → Prop), EnvR X.K F H σ ρ → Post X.K W σ ρ F H (t0 ρ) (fun b _ _ H' => Q b H') → tt0 σ H Q)
    (qt : ∀ (σ : St) (F H : Hp) (ρ : En) (Q : Bool → Hp → Prop), EnvR X.K F H σ ρ → Post X.K W σ ρ F H (t ρ) (fun b _ _ H' => Q b H') → tt σ H Q)
    (q1 : ∀ (σ : St) (F H : Hp) (ρ : En) (D : Ends), EnvR X.K F H σ ρ → PostS X.K W σ ρ F H (sRet (sC d1) ρ) D → t1 D σ H)
    (σ : St) (F H : Hp) (ρ : En) (D : Ends) (E : EnvR X.K F H σ ρ) (h : PostS X.K W σ ρ F H (sBlk2 j f t0 t d1 ρ) D) :
    tSeq (tAsg te (gName j)) (tSeq (tIfS tt0 t00 tNext) (tSeq (tIfS tt t1 tNext) (tSeq (tDrop (tBM0 X.K "list" rClear (tOp (rIx X.K) (tVar j) (tC (.int 0))))) (tDrop (tBM X.K "list" rAppend (tOp (rIx X.K) (tVar j) (tC (.int 1))) (tCons (tC (.int i)) tNil)))))) D σ H := by
  refine qe σ F H ρ _ E ?_
  unfold sBlk2 andS at h
  cases e0 : f ρ with
  | bad => simp only [e0] at h; exact h
  | exc c ρ1 => simp only [e0] at h; exact fun F1 H1 g => h σ F1 H1 g.go
  | ok cs ρ1 =>
    simp only [e0] at h
    intro Fc Hc g v r
    obtain ⟨a, vs, rfl, hsq, cm, nd⟩ := r
    obtain ⟨F1, g1, sF, rp⟩ := goFastC E g cm nd
    have r1 : Rp X.K F1 (.ref a) (.tuple (cs.map (·.2))) := .tup (same_sqP sF hsq) rp
    have E1 := peek_env (j := j) g1.env r1
    unfold blk2K at h
    cases hs0 : ρ1[j]? with
    | none => simp only [hs0] at h; exact h.elim
    | some s =>
      simp only [hs0] at h
      cases hfr : s.free with
      | false => rw [hfr, if_neg (by decide)] at h; exact h.elim
      | true =>
        rw [hfr, if_pos rfl] at h
        refine qt0 _ F1 Hc (peek j cs ρ1) _ E1 ?_
        cases et0 : t0 (peek j cs ρ1) with
        | bad => simp only [et0] at h; exact h.elim
        | exc c ρ' => simp only [et0] at h; exact h.elim
        | ok b0 ρ' =>
          cases b0 with
          | true => simp only [et0] at h; exact h.elim
          | false =>
            simp only [et0] at h
            intro F0' H0' gT0
            have sH0 := peek_same gT0
            refine iteF ?_
            refine qt _ F1 H0' (peek j cs ρ1) _ (E1.heap sH0) ?_
            cases et : t (peek j cs ρ1) with
            | bad => simp only [et] at h; exact h.elim
            | exc c ρ' => simp only [et] at h; exact h.elim
            | ok b ρ' =>
              simp only [et] at h
              intro F' H' gT
              have sH : Same Hc H' := sH0.trans (peek_same gT)
              cases b with
              | true =>
                have G := blk_go (v := .ref a) (B := fun _ => False) E g hs0 hfr (fun a h => h.elim) (fun a o h _ => sH a o h) (fun a o h => ⟨o, sH a o h⟩)
                refine iteT (q1 _ _ _ _ _ G.env ?_)
                exact fun v2 σ2 F2 H2 g2 r2 => h v2 σ2 F2 H2 (G.trans g2) r2
              | false =>
                refine iteF ?_
                simp only at h
                split at h
                · rename_i hl
                  unfold two at hl
                  split at hl
                  · rename_i ds1 ds2
                    have hz := of_decide_eq_true hl
                    obtain ⟨b1, hb1, nb1, xs1, hx1, hF1, rp1⟩ := cm_at (k := 0) cm rfl
                    obtain ⟨b2, hb2, nb2, xs2, hx2, hF2, rp2⟩ := cm_at (k := 1) cm rfl
                    have hne : b2 ≠ b1 := fun e => by
                      subst e
                      match vs, hb1, hb2 with
                      | v1 :: v2 :: _, q1, q2 =>
                        cases q1; cases q2
                        simp [owV] at nd
                    have hj : j < σ.length := by rw [g.env.len]; exact (List.getElem?_eq_some_iff.mp hs0).1
                    refine ⟨.ref a, by rw [List.getElem?_set, if_pos rfl, if_pos hj], .inr (.inl ⟨a, vs, 0, .ref b1, rfl, rfl, same_sqT (g.env.le.trans sH) hsq.sq, L2.atI_nat hb1, ?_⟩)⟩
                    refine ⟨.inl ⟨rfl, xs1, .inl (.inl (sH _ _ hx1))⟩, b1, xs1, rfl, rfl, sH _ _ hx1, ?_⟩
                    have sU : ∀ z o, Hc z = some o → z ≠ b1 → upd H' b1 (.lst []) z = some o := fun z o hz nz => by rw [upd_ne nz]; exact sH _ _ hz
                    have sF2 : Same Fc (upd H' b1 (.lst [])) := fun z o hz => sU z o (g.env.le z o hz) fun e => by subst e; rw [hF1] at hz; cases hz
                    refine ⟨.ref a, by rw [List.getElem?_set, if_pos rfl, if_pos hj], .inr (.inl ⟨a, vs, 1, .ref b2, rfl, rfl, same_sqT sF2 hsq.sq, L2.atI_nat hb2, ?_⟩)⟩
                    refine ⟨.inl ⟨rfl, xs2, .inl (.inl (sU _ _ hx2 hne))⟩, b2, xs2, .int i, rfl, rfl, sU _ _ hx2 hne, by rw [rp2.length]; exact hz, ?_⟩
                    exact h _ Fc _ (blk_go (v := .ref a) (B := fun z => z = b1 ∨ z = b2) E g hs0 hfr (fun z hz => by
                        rcases hz with hz | hz
                        · subst hz; exact ⟨nb1, hF1⟩
                        · subst hz; exact ⟨nb2, hF2⟩) (fun z o hz nz => by
                        rw [upd_ne (fun e => nz (.inr e))]; exact sU z o hz (fun e => nz (.inl e))) (fun z o hz => by
                        by_cases e : z = b2
                        · exact ⟨.lst (xs2 ++ [.int i]), by subst e; unfold upd; rw [if_pos rfl]⟩
                        · by_cases e1 : z = b1
                          · exact ⟨.lst [], by rw [upd_ne e]; subst e1; unfold upd; rw [if_pos rfl]⟩
                          · exact ⟨o, by rw [upd_ne e]; exact sU z o hz e1⟩))
                  · cases hl
                · exact h.elim
variable {pos p2 p3 p4 p5 p6 p7 p8 p9 p10 p11 p12 p13 p14 p15 p16 p17 p18 : Pos}
theorem dss_blk2 {j q q2 q3 : Nat} {x : Str} {e c0 c : Expr} {b0 b1 rest : List Stmt} {i : Int} {f : En → Res Cs} {t0 t : En → Res Bool} {d1 : PyData} {s0 s2 : En → Out}
    (hN : X.N.Nodup) (hi : X.N[j]? = some x) (hx : Loc X.env.scope x) (he : DC X W e f) (hv : PE X (.Name x p6) (tVar j)) (hv2 : PE X (.Name x p16) (tVar j)) (ht0 : DT X W c0 t0) (ha0 : DSs X W b0 s0) (ht : DT X W c t) (ha : DSs X W b1 (sRet (sC d1))) (hrest : DSs X W rest s2)
    (hs : swapsWith e (some (.Name x p2)) pos.line X.env = pure false := by rfl)
    (hf : X.fn x = true ∨ X.env.scope.names.lookup x = some .local := by first | exact .inl rfl | exact .inr rfl)
    (hs4 : swapsWith (.Call (.Attribute (.Subscript (.Name x p6) (.Constant (.int 0) q p7) p8) "clear" p9) [] [] p5) none p4.line X.env = pure false := by rfl)
    (hbase0 : attributeBase (.Subscript (.Name x p6) (.Constant (.int 0) q p7) p8) "clear" X.env (eval (.Subscript (.Name x p6) (.Constant (.int 0) q p7) p8) X.env) = eval (.Subscript (.Name x p6) (.Constant (.int 0) q p7) p8) X.env := by rfl)
    (hline0 : (p9.endLine == p5.line) = true := by rfl)
    (hs3 : swapsWith (.Call (.Attribute (.Subscript (.Name x p16) (.Constant (.int 1) q2 p17) p18) "append" p11) [.Constant (.int i) q3 p12] [] p13) none p14.line X.env = pure false := by rfl)
    (hbase : attributeBase (.Subscript (.Name x p16) (.Constant (.int 1) q2 p17) p18) "append" X.env (eval (.Subscript (.Name x p16) (.Constant (.int 1) q2 p17) p18) X.env) = eval (.Subscript (.Name x p16) (.Constant (.int 1) q2 p17) p18) X.env := by rfl)
    (hfew : ((backTo p13 (starEach [.Constant (.int i) q3 p12] X.env)).all (fun x => !x.1) && (backToKw p13 (keywordEach [] X.env)).all (fun x => x.1.isSome)
      && decide (([.Constant (.int i) q3 p12] : List Expr).length + ([] : List Keyword).length + (if ([] : List Keyword).isEmpty then 0 else 1) < 30)) = true := by rfl)
    (hline : (p11.endLine == p13.line) = true := by rfl) :
    DSs X W (.Assign [.Name x p2] e pos :: .If c0 b0 [] p3 :: .If c b1 [] p10 :: .Expr (.Call (.Attribute (.Subscript (.Name x p6) (.Constant (.int 0) q p7) p8) "clear" p9) [] [] p5) p4 :: .Expr (.Call (.Attribute (.Subscript (.Name x p16) (.Constant (.int 1) q2 p17) p18) "append" p11) [.Constant (.int i) q3 p12] [] p13) p14 :: rest) (seqS (sBlk2 j f t0 t d1) s2) := by
  obtain ⟨te, pe, qe⟩ := he.ex
  obtain ⟨tt0, pt0, qt0⟩ := ht0.ex
  obtain ⟨t00, p00, q00⟩ := ha0.ex
  obtain ⟨tt, pt, qt⟩ := ht.ex
  obtain ⟨t1, p1, q1⟩ := ha.ex
  obtain ⟨t2, pr, qr⟩ := hrest.ex
  have hix0 : PE X (.Subscript (.Name x p6) (.Constant (.int 0) q p7) p8) (tOp (rIx X.K) (tVar j) (tC (.int 0))) := pe_ix ix_seq hv pe_int (fun _ _ => rfl)
  have hix : PE X (.Subscript (.Name x p16) (.Constant (.int 1) q2 p17) p18) (tOp (rIx X.K) (tVar j) (tC (.int 1))) := pe_ix ix_seq hv2 pe_int (fun _ _ => rfl)
  have hcl := pe_bm0 PySem.F.plainAttrs_list PySem.F.slot_list_clear PySem.F.type_list_clear mt_clear hix0 hbase0 hline0
  have hap := pe_bm PySem.F.plainAttrs_list PySem.F.slot_list_append PySem.F.type_list_append mt_append hix (pa_cons pe_int pa_nil) hbase hfew hline
  refine ⟨_, pss_cons (ps_set hN hi hx pe hs hf) (pss_cons (ps_if pt0 p00 pss_nil) (pss_cons (ps_if pt p1 pss_nil) (pss_cons (ps_expr hcl hs4) (pss_cons (ps_expr hap hs3) pr)))), fun σ F H ρ D E h => ?_⟩
  refine blk2_core (j := j) (d1 := d1) (i := i) (t00 := t00) qe qt0 qt q1 σ F H ρ { D with nx := t2 D } E ?_
  unfold seqS at h
  cases e : sBlk2 j f t0 t d1 ρ with
  | nx ρ' => rw [e] at h; exact fun σ' F' H' g => qr σ' F' H' ρ' D g.env (h.go g)
  | bk ρ' => rw [e] at h; exact h
  | ct ρ' => rw [e] at h; exact h
  | rt r ρ' => rw [e] at h; exact h
  | rd cs ρ' => rw [e] at h; exact h
  | exc c ρ' => rw [e] at h; exact h
  | bad => rw [e] at h; exact h
end
end Py
end L2

/-! ## dicts whose keys are tuples: what is done with them -/
namespace L2
namespace Py
open PySem PySem.Spec PyProof.Rows
/-! ### keys as the heap has them -/
section
variable {X : Cx} {pins : List (Addr × Obj)} {σ : St} {H : Hp} {s : Shared}
mutual
theorem key_is (I : Inv X pins σ H s) : ∀ (d : PyData) (v : V) (u : Value) (k : NestedKey), Rp X.K H v d → RelV v u → keyN d = some k → NestedIs s.heap k u
  | .none, _, _, _, h, r, e => by cases h; cases r; simp only [keyN, Option.some.injEq] at e; subst e; exact .none
  | .int i, _, _, _, h, r, e => by cases h; obtain ⟨t, rfl⟩ := r; simp only [keyN, Option.some.injEq] at e; subst e; exact .int _ _
  | .tuple ds, _, _, k, h, r, e => by
    cases h with
    | tup hs ha =>
      cases r
      obtain ⟨its, rv, ⟨o, ho, hc, n, hd⟩, _⟩ := I.tuple hs.sq
      simp only [keyN, Option.map_eq_some_iff] at e
      obtain ⟨ks, e1, rfl⟩ := e
      exact .tup ho hc hd (by simpa using keys_are I ds _ its ks ha rv e1)
  | .bool _, _, _, _, _, _, e => by simp [keyN] at e
  | .str _, _, _, _, _, _, e => by simp [keyN] at e
  | .list _, _, _, _, _, _, e => by simp [keyN] at e
  | .dict _, _, _, _, _, _, e => by simp [keyN] at e
theorem keys_are (I : Inv X pins σ H s) : ∀ (ds : List PyData) (vs : List V) (us : List Value) (ks : List NestedKey), RpL X.K H vs ds → Vals vs us → keysN ds = some ks → NestedAll s.heap ks us
  | [], _, _, _, h, r, e => by cases h; cases r; simp only [keysN, Option.some.injEq] at e; subst e; exact .nil
  | d :: ds, _, _, ks, h, r, e => by
    cases h with
    | cons h1 h2 =>
      cases r with
      | cons r1 r2 =>
        rw [keysN] at e
        split at e
        · rename_i k ks' e1 e2
          cases e
          exact .cons (key_is I d _ _ k h1 r1 e1) (keys_are I ds _ _ ks' h2 r2 e2)
        · cases e
end
theorem key_nk (I : Inv X pins σ H s) {d : PyData} {b : Addr} {k : NestedKey} (h : Rp X.K H (.ref b) d) (e : keyT d = some k) : (nestedKind X.prog X.w).is s.heap k b := by
  obtain ⟨e1, e2, _⟩ := keyT_N e
  exact ⟨key_is I d (.ref b) (.ref b) k h rfl e1, e2⟩
theorem RpN.all {K : PySem.W.Frag} {F : Hp} : ∀ {kvs : List (NestedKey × Addr × V)} {ds : List (PyData × PyData)} {ys : List NE}, RpN K F kvs ds → KTN kvs ys → ∀ y ∈ ys, ∃ kd, keyT kd = some y.1 ∧ Rp K F (.ref y.2.1) kd
  | _, _, _, .nil, .nil, _, m => nomatch m
  | _, _, _, .cons e h _ t, .cons r rs, y, m => by
    rcases List.mem_cons.mp m with q | m
    · subst q
      obtain ⟨e1, e2, _⟩ := r
      dsimp only at e1 e2
      rw [← e1, ← e2]
      exact ⟨_, e, h⟩
    · exact RpN.all t rs y m
/-- the dict at a, or the empty one -/
def IsN (H : Hp) (a : Addr) (kvs : List (NestedKey × Addr × V)) : Prop := Rd H a (ND a kvs) ∨ (Rd H a (.dK []) ∧ kvs = [])
theorem nd_heap (I : Inv X pins σ H s) {F : Hp} (le : Same F H) {a : Addr} {kvs : List (NestedKey × Addr × V)} {ds : List (PyData × PyData)} (h : IsN H a kvs) (r : RpN X.K F kvs ds) :
    (a == sysModules) = false ∧ kvs.length ≤ sizeLine ∧ ∃ ys, KTN kvs ys ∧ s.heap.DictOfH (nestedKind X.prog X.w) a ys := by
  rcases h with h | ⟨h, rfl⟩
  · obtain ⟨z, y, ys, kt, o, es, ep, h1, h2, h3, h4, h5⟩ := nd_ok (show ObjOk X.prog X.w H s.heap a (ND a kvs) from h.ok I.hok)
    refine ⟨z, y, ys, kt, o, es, ep, h1, h2, h3, h4 X.w, fun q m => ?_, h5⟩
    obtain ⟨kd, e, rk⟩ := r.all kt q m
    exact key_nk I (rk.mono le) e
  · obtain ⟨z, hd, vs, rel, o, es, ep, h1, h2, h3, h4, h5, _⟩ := dk_rd I.hok h
    cases rel
    refine ⟨hd, Nat.zero_le _, [], .nil, o, es, ep, h1, h2, h3, ?_, (fun _ m => nomatch m), .nil⟩
    have := h5.length
    simpa using this
end
/-! ### looking up and storing -/
def eqN (a b : PyData) : Bool := match keyT a, keyT b with
  | some x, some y => NestedKey.beq x y
  | _, _ => false
def lookN (ds : List (PyData × PyData)) (k : PyData) : Option PyData := (ds.find? fun p => eqN p.1 k).map (·.2)
def putN (ds : List (PyData × PyData)) (k v : PyData) : List (PyData × PyData) :=
  if (ds.any fun p => eqN p.1 k) = true then ds.map (fun p => if eqN p.1 k = true then (p.1, v) else p) else ds ++ [(k, v)]
def putV (kvs : List (NestedKey × Addr × V)) (k : NestedKey) (b : Addr) (v : V) : List (NestedKey × Addr × V) :=
  if (kvs.any fun p => NestedKey.beq p.1 k) = true then kvs.map (fun p => if NestedKey.beq p.1 k = true then (p.1, p.2.1, v) else p) else kvs ++ [(k, b, v)]
theorem eqN_key {a b : PyData} {x y : NestedKey} (h : keyT a = some x) (h2 : keyT b = some y) : eqN a b = NestedKey.beq x y := by unfold eqN; rw [h, h2]
theorem beq_dec (x y : NestedKey) : decide (x = y) = NestedKey.beq x y := NestedKey.decide_eq x y
section
variable {K : PySem.W.Frag} {F : Hp}
theorem RpN.look {kd : PyData} {k : NestedKey} (hk : keyT kd = some k) : ∀ {kvs : List (NestedKey × Addr × V)} {ds : List (PyData × PyData)} {ys : List NE}, RpN K F kvs ds → KTN kvs ys →
    (∀ d, lookN ds kd = some d → ∃ b v u, atKey ys k = some (b, u) ∧ RelV v u ∧ Rp K F v d) ∧ (lookN ds kd = none → atKey ys k = none)
  | _, _, _, .nil, .nil => ⟨(fun _ h => nomatch h), fun _ => rfl⟩
  | _, _, _, @RpN.cons _ _ k' b' v' kvs kd' d' ds e h h2 t, .cons (b := q) (l₂ := qs) r rs => by
    have ih := RpN.look hk t rs
    obtain ⟨k2, b2, u2⟩ := q
    obtain ⟨e1, e2, e3⟩ := r
    dsimp only at e1 e2 e3
    subst e1 e2
    have eb := eqN_key e hk
    cases hb : NestedKey.beq k' k with
    | true =>
      have ek := NestedKey.eq_of_beq _ _ hb
      have a1 : lookN ((kd', d') :: ds) kd = some d' := by unfold lookN; rw [List.find?_cons_of_pos (by rw [eb, hb])]; rfl
      have a2 : atKey ((k', b', u2) :: qs) k = some (b', u2) := by unfold atKey; rw [List.find?_cons_of_pos (by rw [beq_dec, hb])]; rfl
      rw [a1, a2]
      exact ⟨fun d hd => by cases hd; exact ⟨b', v', u2, rfl, e3, h2⟩, fun z => nomatch z⟩
    | false =>
      have a1 : lookN ((kd', d') :: ds) kd = lookN ds kd := by unfold lookN; rw [List.find?_cons_of_neg (by rw [eb, hb]; exact Bool.false_ne_true)]
      have a2 : atKey ((k', b', u2) :: qs) k = atKey qs k := by unfold atKey; rw [List.find?_cons_of_neg (by rw [beq_dec, hb]; exact Bool.false_ne_true)]
      rw [a1, a2]
      exact ih
theorem RpN.isS {kd : PyData} {k : NestedKey} (hk : keyT kd = some k) {kvs : List (NestedKey × Addr × V)} {ds : List (PyData × PyData)} {ys : List NE} (r : RpN K F kvs ds) (t : KTN kvs ys) : (lookN ds kd).isSome = (atKey ys k).isSome := by
  have := r.look hk t
  cases q : lookN ds kd with
  | none => rw [this.2 q]; rfl
  | some d => obtain ⟨b, v, u, e, _⟩ := this.1 d q; rw [e]; rfl
theorem RpN.any {kd : PyData} {k : NestedKey} (hk : keyT kd = some k) : ∀ {kvs : List (NestedKey × Addr × V)} {ds : List (PyData × PyData)}, RpN K F kvs ds → (ds.any fun p => eqN p.1 kd) = (kvs.any fun p => NestedKey.beq p.1 k)
  | _, _, .nil => rfl
  | _, _, .cons e h h2 t => by rw [List.any_cons, List.any_cons, RpN.any hk t, eqN_key e hk]
theorem RpN.mapP {kd : PyData} {k : NestedKey} {v : V} {d : PyData} (hk : keyT kd = some k) (r : Rp K F v d) : ∀ {kvs : List (NestedKey × Addr × V)} {ds : List (PyData × PyData)}, RpN K F kvs ds →
    RpN K F (kvs.map fun p => if NestedKey.beq p.1 k = true then (p.1, p.2.1, v) else p) (ds.map fun p => if eqN p.1 kd = true then (p.1, d) else p)
  | _, _, .nil => .nil
  | _, _, @RpN.cons _ _ k' b' v' kvs kd' d' ds e h h2 t => by
    have ih := RpN.mapP hk r t
    rw [List.map_cons, List.map_cons, eqN_key e hk]
    by_cases hb : NestedKey.beq k' k = true
    · rw [if_pos hb, if_pos hb]; exact .cons e h r ih
    · rw [if_neg hb, if_neg hb]; exact .cons e h h2 ih
theorem RpN.snoc {kd : PyData} {k : NestedKey} {b : Addr} {v : V} {d : PyData} (hk : keyT kd = some k) (hb : Rp K F (.ref b) kd) (r : Rp K F v d) : ∀ {kvs : List (NestedKey × Addr × V)} {ds : List (PyData × PyData)}, RpN K F kvs ds → RpN K F (kvs ++ [(k, b, v)]) (ds ++ [(kd, d)])
  | _, _, .nil => .cons hk hb r .nil
  | _, _, .cons e h h2 t => .cons e h h2 (RpN.snoc hk hb r t)
theorem RpN.put {kd : PyData} {k : NestedKey} {b : Addr} {v : V} {d : PyData} (hk : keyT kd = some k) (hb : Rp K F (.ref b) kd) (r : Rp K F v d) {kvs : List (NestedKey × Addr × V)} {ds : List (PyData × PyData)} (h : RpN K F kvs ds) : RpN K F (putV kvs k b v) (putN ds kd d) := by
  unfold putV putN
  rw [h.any hk]
  split
  · exact h.mapP hk r
  · exact h.snoc hk hb r
theorem ktn_map {k : NestedKey} {v : V} {u : Value} (r : RelV v u) : ∀ {kvs : List (NestedKey × Addr × V)} {ys : List NE}, KTN kvs ys → KTN (kvs.map fun p => if NestedKey.beq p.1 k = true then (p.1, p.2.1, v) else p) (ys.map (putAt k u))
  | _, _, .nil => .nil
  | _, _, .cons (a := p) (b := q) h t => by
    have ih := ktn_map r t (k := k)
    obtain ⟨k1, b1, v1⟩ := p
    obtain ⟨k2, b2, u2⟩ := q
    obtain ⟨e1, e2, e3⟩ := h
    dsimp only at e1 e2 e3
    subst e1 e2
    rw [List.map_cons, List.map_cons]
    have e : putAt k u (k1, b1, u2) = if k1 = k then (k1, b1, u) else (k1, b1, u2) := rfl
    rw [e]
    by_cases hb : k1 = k
    · rw [if_pos hb, if_pos (by rw [← beq_dec, decide_eq_true_eq]; exact hb)]; exact .cons ⟨rfl, rfl, r⟩ ih
    · rw [if_neg hb, if_neg (by rw [← beq_dec, decide_eq_true_eq]; exact hb)]; exact .cons ⟨rfl, rfl, e3⟩ ih
theorem ktn_any {k : NestedKey} : ∀ {kvs : List (NestedKey × Addr × V)} {ys : List NE}, KTN kvs ys → (kvs.any fun p => NestedKey.beq p.1 k) = (atKey ys k).isSome
  | _, _, .nil => rfl
  | _, _, .cons (a := p) (b := q) h t => by
    have ih := ktn_any t (k := k)
    obtain ⟨k1, b1, v1⟩ := p
    obtain ⟨k2, b2, u2⟩ := q
    obtain ⟨e1, e2, e3⟩ := h
    dsimp only at e1 e2 e3
    subst e1 e2
    rw [List.any_cons]
    cases hb : NestedKey.beq k1 k with
    | true => unfold atKey; rw [List.find?_cons_of_pos (by rw [beq_dec, hb])]; rfl
    | false => rw [Bool.false_or, ih]; unfold atKey; rw [List.find?_cons_of_neg (by rw [beq_dec, hb]; exact Bool.false_ne_true)]
theorem ktn_snoc {p : NestedKey × Addr × V} {q : NE} (h : p.1 = q.1 ∧ p.2.1 = q.2.1 ∧ RelV p.2.2 q.2.2) : ∀ {kvs : List (NestedKey × Addr × V)} {ys : List NE}, KTN kvs ys → KTN (kvs ++ [p]) (ys ++ [q])
  | _, _, .nil => .cons h .nil
  | _, _, .cons r t => .cons r (ktn_snoc h t)
theorem ktn_put {k : NestedKey} {b : Addr} {v : V} {u : Value} (r : RelV v u) {kvs : List (NestedKey × Addr × V)} {ys : List NE} (h : KTN kvs ys) : KTN (putV kvs k b v) (storedH ys k b u) := by
  unfold putV storedH
  rw [ktn_any h]
  split
  · exact ktn_map r h
  · exact ktn_snoc ⟨rfl, rfl, r⟩ h
theorem putV_len (kvs : List (NestedKey × Addr × V)) (k : NestedKey) (b : Addr) (v : V) : (putV kvs k b v).length ≤ kvs.length + 1 := by
  unfold putV; split
  · rw [List.length_map]; omega
  · rw [List.length_append]; exact Nat.le_refl _
theorem putN_ne {ds : List (PyData × PyData)} {k v : PyData} : putN ds k v ≠ [] := by
  unfold putN
  split
  · rename_i h
    intro z
    cases ds with
    | nil => cases h
    | cons p ds => cases z
  · intro z; simp at z
end
/-! ### the operations, by the model -/
section
variable {X : Cx} {pins : List (Addr × Obj)} {σ : St} {H F : Hp} {s : Shared} {a b : Addr} {kvs : List (NestedKey × Addr × V)} {ds : List (PyData × PyData)} {kd : PyData} {k : NestedKey} {A : Around} {E : Value → Shared → Prop}
theorem n_in {Q : Value → Shared → Prop} (hu : A.units + 9 < cLine) (I : Inv X pins σ H s) (le : Same F H) (h : IsN H a kvs) (r : RpN X.K F kvs ds) (rk : Rp X.K F (.ref b) kd) (hk : keyT kd = some k) (hq : ∀ s', Inv X pins σ H s' → Q (.bool (lookN ds kd).isSome) s') :
    wpAny (model X.prog X.w) A (compareOp .In (.ref b) (.ref a)) Q E s := by
  obtain ⟨z, y, ys, kt, dd⟩ := nd_heap I le h r
  refine wpAny_in_heap (knd := nestedKind X.prog X.w) (by show A.in1.units + 8 < cLine; simp only [Around.in1_units]; omega) (key_nk I (rk.mono le) hk) z dd ?_
  rw [← r.isS hk kt]
  exact hq _ (I.tok _)
theorem n_notIn {Q : Value → Shared → Prop} (hu : A.units + 9 < cLine) (I : Inv X pins σ H s) (le : Same F H) (h : IsN H a kvs) (r : RpN X.K F kvs ds) (rk : Rp X.K F (.ref b) kd) (hk : keyT kd = some k) (hq : ∀ s', Inv X pins σ H s' → Q (.bool (!(lookN ds kd).isSome)) s') :
    wpAny (model X.prog X.w) A (compareOp .NotIn (.ref b) (.ref a)) Q E s := by
  obtain ⟨z, y, ys, kt, dd⟩ := nd_heap I le h r
  refine wpAny_notIn_heap (knd := nestedKind X.prog X.w) (by show A.in1.units + 8 < cLine; simp only [Around.in1_units]; omega) (key_nk I (rk.mono le) hk) z dd ?_
  rw [← r.isS hk kt]
  exact hq _ (I.tok _)
theorem n_getItem {Q : Value → Shared → Prop} {d : PyData} (hu : A.units + 9 < cLine) (I : Inv X pins σ H s) (le : Same F H) (h : IsN H a kvs) (r : RpN X.K F kvs ds) (rk : Rp X.K F (.ref b) kd) (hk : keyT kd = some k) (hl : lookN ds kd = some d) (hq : ∀ v u s', Inv X pins σ H s' → RelV v u → Rp X.K F v d → Q u s') :
    wpAny (model X.prog X.w) A (getItem (.ref a) (.ref b)) Q E s := by
  obtain ⟨z, y, ys, kt, dd⟩ := nd_heap I le h r
  obtain ⟨b', v, u, e, rv, rp⟩ := (r.look hk kt).1 d hl
  exact wpAny_getItem_heap (knd := nestedKind X.prog X.w) (by show A.in1.units + 8 < cLine; simp only [Around.in1_units]; omega) (key_nk I (rk.mono le) hk) dd e (hq v u _ (I.tok _) rv rp)
theorem n_setItem {Q : Unit → Shared → Prop} {v : V} {u : Value} (hu : A.units + 9 < cLine) (I : Inv X pins σ H s) (le : Same F H) (h : H a = some (ND a kvs) ∨ (H a = some (.dK []) ∧ kvs = [])) (r : RpN X.K F kvs ds) (rk : Rp X.K F (.ref b) kd) (hk : keyT kd = some k) (rv : RelV v u) (hl : kvs.length < sizeLine)
    (hq : ∀ s', Inv X pins σ (upd H a (ND a (putV kvs k b v))) s' → Q () s') : wpAny (model X.prog X.w) A (setItem (.ref a) (.ref b) u) Q E s := by
  have hi : IsN H a kvs := by
    rcases h with h | ⟨h, e⟩
    · exact .inl (.inl h)
    · exact .inr ⟨.inl h, e⟩
  have mu : Mut (H a) := by rcases h with h | ⟨h, _⟩ <;> rw [h] <;> exact True.intro
  obtain ⟨z, y, ys, kt, dd⟩ := nd_heap I le hi r
  refine wpAny_setItem_heap (knd := nestedKind X.prog X.w) (hsz := by rw [← Paired.length kt]; exact y) (by show A.in1.units + 8 < cLine; simp only [Around.in1_units]; omega) (key_nk I (rk.mono le) hk) dd fun h' dd' hs => hq _ ?_
  obtain ⟨o, es, ep, h1, h2, h3, h4, _, h5⟩ := dd'
  have hkeys : ∀ q ∈ storedH ys k b u, ∃ kd, keyT kd = some q.1 := fun q m => by
    unfold storedH at m
    split at m
    · obtain ⟨p, mp, e⟩ := List.mem_map.mp m
      obtain ⟨kd', e', _⟩ := r.all kt p mp
      refine ⟨kd', ?_⟩
      rw [e', ← e]
      unfold putAt; split <;> rfl
    · rcases List.mem_append.mp m with m | m
      · obtain ⟨kd', e', _⟩ := r.all kt q m
        exact ⟨kd', e'⟩
      · rw [List.mem_singleton.mp m]; exact ⟨kd, hk⟩
  have hp := putV_len kvs k b v
  refine d_write I mu hs ⟨o, h1⟩ (nd_obj ⟨z, by omega, _, ktn_put rv kt, o, es, ep, h1, h2, h3, fun w' => ?_, h5⟩)
  rw [h4]
  refine List.map_congr_left fun q m => ?_
  obtain ⟨kd', e'⟩ := hkeys q m
  unfold entN entryOfKey
  rw [show (nestedKind X.prog X.w).hash q.1 = q.1.hash X.w from rfl, keyN_hash X.w w' kd' q.1 (keyT_N e').1]
theorem n_get2 {Q : Value → Shared → Prop} {y : V} {dv : Value} (hu : A.units + 9 < cLine) (I : Inv X pins σ H s) (le : Same F H) (h : IsN H a kvs) (r : RpN X.K F kvs ds) (rk : Rp X.K F (.ref b) kd) (hk : keyT kd = some k) (rd : RelV y dv) {d : PyData} (rdd : Rp X.K F y d) (hq : ∀ v u s', Inv X pins σ H s' → RelV v u → Rp X.K F v ((lookN ds kd).getD d) → Q u s') :
    wpAny (model X.prog X.w) A (call (.builtin "dict.get") [.ref a, .ref b, dv]) Q E s := by
  obtain ⟨z, yl, ys, kt, dd⟩ := nd_heap I le h r
  have lk := r.look hk kt
  refine call_meetsIn PySem.F.slot_dict_get dd.typeIs PySem.F.entry_dict_get (PySem.F.args_dict_get_3 _ _ _) (meetsH_dict_get_default (nestedKind X.prog X.w) a b z dv) ⟨by show A.in1.units + 8 < cLine; simp only [Around.in1_units]; omega, k, ys, key_nk I (rk.mono le) hk, dd, ?_⟩
  cases q : lookN ds kd with
  | none => rw [lk.2 q]; exact hq y dv _ (I.tok _) rd (by rw [q]; exact rdd)
  | some d' =>
    obtain ⟨b', v, u, e, rv, rp⟩ := lk.1 d' q
    rw [e]
    exact hq v u _ (I.tok _) rv (by rw [q]; exact rp)
end
/-! ### the rules -/
def okN (ds : List (PyData × PyData)) : Bool := nestD ds || ds.isEmpty
theorem okN_cases {ds : List (PyData × PyData)} (h : okN ds = true) : nestD ds = true ∨ ds = [] := by
  unfold okN at h
  rw [Bool.or_eq_true] at h
  rcases h with h | h
  · exact .inl h
  · exact .inr (List.isEmpty_iff.mp h)
theorem isN_of {K : PySem.W.Frag} {F H : Hp} {y : V} {ds : List (PyData × PyData)} (h : Rd1 K F H y (.dict ds)) (ok : okN ds = true) : ∃ a kvs, y = .ref a ∧ IsN H a kvs ∧ RpN K F kvs ds := by
  rcases h with ⟨a, kvs, rfl, h1, r⟩ | ⟨a, kvs, rfl, h1, r, _⟩
  · rcases okN_cases ok with z | z
    · rw [r.flat] at z; cases z
    · subst z
      cases r
      exact ⟨a, [], rfl, .inr ⟨h1, rfl⟩, .nil⟩
  · exact ⟨a, kvs, rfl, .inl h1, r⟩
theorem obN_of {K : PySem.W.Frag} {F H : Hp} {a : Addr} {ds : List (PyData × PyData)} (h : Ob K F H a (.dict ds)) (ok : okN ds = true) : F a = none ∧ ∃ kvs, (H a = some (ND a kvs) ∨ (H a = some (.dK []) ∧ kvs = [])) ∧ RpN K F kvs ds := by
  rcases h with ⟨kvs, h1, hF, r⟩ | ⟨kvs, h1, hF, r, _⟩
  · rcases okN_cases ok with z | z
    · rw [r.flat] at z; cases z
    · subst z
      cases r
      exact ⟨hF, [], .inr ⟨h1, rfl⟩, .nil⟩
  · exact ⟨hF, kvs, .inl h1, r⟩
theorem key_rd {K : PySem.W.Frag} {F H : Hp} {x : V} {kd : PyData} {k : NestedKey} (h : Rd1 K F H x kd) (e : keyT kd = some k) : ∃ b, x = .ref b ∧ Rp K F (.ref b) kd := by
  obtain ⟨_, _, ds, rfl⟩ := keyT_N e
  obtain ⟨a, xs, rfl, hs, r⟩ := h
  exact ⟨a, rfl, .tup hs r⟩
/-- k in d -/
def rNIn (K : PySem.W.Frag) (n : Bool → Bool) : R2 := fun y x H Q => ∃ (F : Hp) (a b : Addr) (kvs : List (NestedKey × Addr × V)) (ds : List (PyData × PyData)) (kd : PyData) (k : NestedKey), Same F H ∧ x = .ref a ∧ y = .ref b ∧ IsN H a kvs ∧ RpN K F kvs ds ∧ Rp K F (.ref b) kd ∧ keyT kd = some k ∧ Q (.bl (n (lookN ds kd).isSome)) H
def pInN (n : Bool → Bool) : PyData → PyData → Option Op
  | k, .dict ds => if (keyT k).isSome = true ∧ okN ds = true then some (.v (.bool (n (lookN ds k).isSome))) else none
  | _, _ => none
def rNGet (K : PySem.W.Frag) : R2 := fun x y H Q => ∃ (F : Hp) (a b : Addr) (kvs : List (NestedKey × Addr × V)) (ds : List (PyData × PyData)) (kd : PyData) (k : NestedKey) (d : PyData), Same F H ∧ x = .ref a ∧ y = .ref b ∧ IsN H a kvs ∧ RpN K F kvs ds ∧ Rp K F (.ref b) kd ∧ keyT kd = some k ∧ lookN ds kd = some d ∧ ∀ v, Rp K F v d → Q v H
def pIxN : PyData → PyData → Option Op
  | .dict ds, k => if (keyT k).isSome = true ∧ okN ds = true then (lookN ds k).map .v else none
  | _, _ => none
theorem p2_inN {K : PySem.W.Frag} {n : Bool → Bool} : P2 K (rNIn K n) (pInN n) := by
  intro F H x y d e o Q le rx ry ho q
  unfold pInN at ho
  split at ho
  · split at ho
    · rename_i ds h
      cases ho
      obtain ⟨k, hk⟩ := Option.isSome_iff_exists.mp h.1
      obtain ⟨a, kvs, rfl, hn, r⟩ := isN_of ry h.2
      obtain ⟨b, rfl, rk⟩ := key_rd rx hk
      exact ⟨F, a, b, kvs, ds, d, k, le, rfl, rfl, hn, r, rk, hk, gives_v le (.bl _) q⟩
    · cases ho
  · cases ho
theorem p2_ixN {K : PySem.W.Frag} : P2 K (rNGet K) pIxN := by
  intro F H x y d e o Q le rx ry ho q
  unfold pIxN at ho
  split at ho
  · split at ho
    · rename_i ds h
      obtain ⟨k, hk⟩ := Option.isSome_iff_exists.mp h.1
      obtain ⟨a, kvs, rfl, hn, r⟩ := isN_of rx h.2
      obtain ⟨b, rfl, rk⟩ := key_rd ry hk
      cases hl : lookN ds e with
      | none => rw [hl] at ho; cases ho
      | some d' =>
        rw [hl] at ho
        cases ho
        exact ⟨F, a, b, kvs, ds, e, k, d', le, rfl, rfl, hn, r, rk, hk, hl, fun v rv => gives_v le rv q⟩
    · cases ho
  · cases ho
section
variable {X : Cx} {W : XW} {pos : Pos} {a b c : Expr} {f1 f2 f3 : En → Res Op}
theorem op_nin (hu : X.A.units + 9 < cLine) : OpR X (compareOp .In) (rNIn X.K id) := by
  intro pins s σ H x y v u Q I rx ry h
  obtain ⟨F, a, b, kvs, ds, kd, k, le, rfl, rfl, hn, r, rk, hk, q⟩ := h
  obtain rfl : u = Value.ref a := ry
  obtain rfl : v = Value.ref b := rx
  exact n_in hu I le hn r rk hk fun s' I' => ⟨.bl _, H, I', rfl, q⟩
theorem op_nnotin (hu : X.A.units + 9 < cLine) : OpR X (compareOp .NotIn) (rNIn X.K not) := by
  intro pins s σ H x y v u Q I rx ry h
  obtain ⟨F, a, b, kvs, ds, kd, k, le, rfl, rfl, hn, r, rk, hk, q⟩ := h
  obtain rfl : u = Value.ref a := ry
  obtain rfl : v = Value.ref b := rx
  exact n_notIn hu I le hn r rk hk fun s' I' => ⟨.bl _, H, I', rfl, q⟩
theorem ix_ndict (hu : X.A.units + 9 < cLine) : IxR X (rNGet X.K) := by
  intro value slice pins s σ H x y v u Q I rx ry h hs
  obtain ⟨F, a, b, kvs, ds, kd, k, d, le, rfl, rfl, hn, r, rk, hk, hl, q⟩ := h
  obtain rfl : v = Value.ref a := rx
  obtain rfl : u = Value.ref b := ry
  obtain ⟨_, _, ys, _, dd⟩ := nd_heap I le hn r
  have hT : s.TypeIs (.ref a) "dict" := dd.typeIs
  unfold subscriptTail
  refine wpAny_bind ?_
  rw [getitemInPython_of_ne hT.not_modules]
  refine wpAny_bind (wpAny_specialOf hT PySem.F.slot_dict_getitem.lookup ?_)
  have fin : wpAny (model X.prog X.w) X.A (subscripted slice false (.ref a) (.ref b)) (fun r s₃ => wpAny (model X.prog X.w) X.A (letTemporaryGo value (.ref a) r >>= fun _ => pure r) (EP X pins σ Q) X.xe s₃) X.xe s := by
    rw [hs]
    exact wpAny_operating (wpAny_mono (n_getItem hu I le hn r rk hk hl fun v u s3 I3 rv rp => (⟨v, H, I3, rv, q v rp⟩ : EP X pins σ Q u s3)) (fun r s₃ h₃ => wpAny_bind (wpAny_letTemporaryGo (wpAny_pure h₃))) fun _ _ x => x)
  first
    | exact wpAny_pure (wpAny_bind fin)
    | exact wpAny_bind (wpAny_pure (wpAny_bind fin))
    | exact wpAny_bind fin
theorem de_ixN {k : Nat} (hr : Room k X.A) (ha : DE X W a f1) (hb : DE X W b f2) (hm : PlainIx b := by exact fun _ _ => rfl) : DE X W (.Subscript a b pos) (sP2 pIxN f1 f2) := de_ix (ix_ndict (by have := hr.units; omega)) p2_ixN ha hb hm
theorem de_inN {k : Nat} (hr : Room k X.A) (ha : DE X W a f1) (hb : DE X W b f2) (hm : behindInMarks .In b = false := by rfl) : DE X W (.Compare a [.In] [b] pos) (sP2 (pInN id) f1 f2) := de_cmp (op_nin (by have := hr.units; omega)) p2_inN ha hb hm
theorem de_notinN {k : Nat} (hr : Room k X.A) (ha : DE X W a f1) (hb : DE X W b f2) (hm : behindInMarks .NotIn b = false := by rfl) : DE X W (.Compare a [.NotIn] [b] pos) (sP2 (pInN not) f1 f2) := de_cmp (op_nnotin (by have := hr.units; omega)) p2_inN ha hb hm
theorem dt_inN {k : Nat} (hr : Room k X.A) (ha : DE X W a f1) (hb : DE X W b f2) (hm : behindInMarks .In b = false := by rfl) : DT X W (.Compare a [.In] [b] pos) (sTest (sP2 (pInN id) f1 f2)) := dt_cmp (op_nin (by have := hr.units; omega)) p2_inN ha hb hm
theorem dt_notinN {k : Nat} (hr : Room k X.A) (ha : DE X W a f1) (hb : DE X W b f2) (hm : behindInMarks .NotIn b = false := by rfl) : DT X W (.Compare a [.NotIn] [b] pos) (sTest (sP2 (pInN not) f1 f2)) := dt_cmp (op_nnotin (by have := hr.units; omega)) p2_inN ha hb hm
end
/-! d[k] = v -/
def putO (k d : PyData) (ds : List (PyData × PyData)) : Option (List (PyData × PyData)) := if (keyT k).isSome = true ∧ okN ds = true ∧ ds.length < sizeLine then some (putN ds k d) else none
def mutN (j : Nat) (k d : PyData) : En → Res Unit := fun ρ => match ρ[j]? with
  | some (.own (.dict ds)) => (match putO k d ds with
    | some ds' => .ok () (ρ.set j (.own (.dict ds')))
    | none => .bad)
  | some (.inn (.dict ds)) => (match putO k d ds with
    | some ds' => .ok () (ρ.set j (.inn (.dict ds')))
    | none => .bad)
  | _ => .bad
theorem putO_ok {k d : PyData} {ds ds' : List (PyData × PyData)} (h : putO k d ds = some ds') : (∃ x, keyT k = some x) ∧ okN ds = true ∧ ds.length < sizeLine ∧ ds' = putN ds k d := by
  unfold putO at h
  split at h
  · rename_i z; cases h; exact ⟨Option.isSome_iff_exists.mp z.1, z.2.1, z.2.2, rfl⟩
  · cases h
theorem mutN_ok {K : PySem.W.Frag} {σ : St} {ρ ρ' : En} {F H : Hp} {j : Nat} {k d : PyData} (E : EnvR K F H σ ρ) (h : mutN j k d ρ = .ok () ρ') :
    ∃ (a : Addr) (kvs : List (NestedKey × Addr × V)) (ds : List (PyData × PyData)) (x : NestedKey), σ[j]? = some (some (.ref a)) ∧ (H a = some (ND a kvs) ∨ (H a = some (.dK []) ∧ kvs = [])) ∧ RpN K F kvs ds ∧ keyT k = some x ∧ ds.length < sizeLine ∧ ∀ kvs', RpN K F kvs' (putN ds k d) → GoE K σ ρ F H ρ' F (upd H a (ND a kvs')) := by
  unfold mutN at h
  cases q : ρ[j]? with
  | none => simp only [q] at h; cases h
  | some s =>
    simp only [q] at h
    obtain ⟨o, e1, e2⟩ := E.sl j s q
    cases s with
    | no => cases h
    | val d => cases h
    | fix d => cases h
    | bor d => cases h
    | own dd =>
      cases dd with
      | dict ds =>
        obtain ⟨a, rfl, e2⟩ := e2
        cases q2 : putO k d ds with
        | none => simp only [q2] at h; cases h
        | some ds' =>
          simp only [q2] at h
          cases h
          obtain ⟨⟨x, hx⟩, ok, hl, rfl⟩ := putO_ok q2
          obtain ⟨hF, kvs, hH, r⟩ := obN_of e2 ok
          exact ⟨a, kvs, ds, x, e1, hH, r, hx, hl, fun xs' r => goPutO E q (.inl ⟨rfl, rfl⟩) e1 (.inr ⟨xs', upd_same, hF, r, putN_ne⟩)⟩
      | _ => cases h
    | inn dd =>
      cases dd with
      | dict ds =>
        obtain ⟨a, rfl, e2⟩ := e2
        cases q2 : putO k d ds with
        | none => simp only [q2] at h; cases h
        | some ds' =>
          simp only [q2] at h
          cases h
          obtain ⟨⟨x, hx⟩, ok, hl, rfl⟩ := putO_ok q2
          obtain ⟨hF, kvs, hH, r⟩ := obN_of e2 ok
          exact ⟨a, kvs, ds, x, e1, hH, r, hx, hl, fun xs' r => goPutO E q (.inr ⟨rfl, rfl⟩) e1 (.inr ⟨xs', upd_same, hF, r, putN_ne⟩)⟩
      | _ => cases h
theorem mutN_noexc {j : Nat} {k d : PyData} {ρ ρ' : En} {c : Str} : mutN j k d ρ ≠ .exc c ρ' := by
  intro h
  unfold mutN at h
  cases q : ρ[j]? with
  | none => simp only [q] at h; cases h
  | some s =>
    simp only [q] at h
    cases s with
    | own dd =>
      cases dd with
      | dict ds => cases q2 : putO k d ds <;> simp only [q2] at h <;> cases h
      | _ => cases h
    | inn dd =>
      cases dd with
      | dict ds => cases q2 : putO k d ds <;> simp only [q2] at h <;> cases h
      | _ => cases h
    | _ => cases h
def sNPut (K : PySem.W.Frag) (td ty tv : TE) : TS := fun D σ H => tv σ H fun v H1 => td σ H1 fun x H2 => ty σ H2 fun y H3 => ∃ (F : Hp) (a b : Addr) (kvs : List (NestedKey × Addr × V)) (ds : List (PyData × PyData)) (kd : PyData) (k : NestedKey), Same F H3 ∧ x = .ref a ∧ y = .ref b ∧
  (H3 a = some (ND a kvs) ∨ (H3 a = some (.dK []) ∧ kvs = [])) ∧ RpN K F kvs ds ∧ Rp K F (.ref b) kd ∧ keyT kd = some k ∧ kvs.length < sizeLine ∧ D.nx σ (upd H3 a (ND a (putV kvs k b v)))
def sSetN (j : Nat) (fi f : En → Res Op) : En → Out := unS (bnd f fun o => bnd (fz o) fun d => bnd (sHas j) fun _ => bnd fi fun oi => bnd (rdd oi) fun k => mutN j k d)
section
variable {X : Cx} {W : XW} {pos pos' : Pos} {i e o value : Expr} {fi f : En → Res Op} {td ty tv : TE}
theorem ps_nput (hu : X.A.units + 9 < cLine) (ho : PE X o td) (hi : PE X i ty) (hv : PE X value tv) (hs : swapsWith value (some (.Subscript o i pos')) pos.line X.env = pure false) :
    PS X (.Assign [.Subscript o i pos'] value pos) (sNPut X.K td ty tv) := by
  refine ⟨fun pins s σ H D I h => ?_⟩
  refine wpAny_Assign_Subscript (thn (hv.run pins s σ H _ I h) fun r s1 ⟨v, H1, I1, rv, q1⟩ => thn (ho.run pins s1 σ H1 _ I1 q1) fun u s2 ⟨x, H2, I2, rx, q2⟩ => thn (hi.run pins s2 σ H2 _ I2 q2) fun iv s3 ⟨y, H3, I3, ry, F, a, b, kvs, ds, kd, k, le, ex, ey, hH, hr, rk, hk, hl, q3⟩ => ?_) hs
  subst ex ey
  obtain rfl : u = Value.ref a := rx
  obtain rfl : iv = Value.ref b := ry
  exact n_setItem hu I3 le hH hr rk hk rv hl fun s4 I4 => ⟨σ, _, I4, q3⟩
theorem ds_setN {k : Nat} {j : Nat} {spos : Pos} (hr : Room k X.A) (ho : PE X o (tVar j)) (hi : DE X W i fi) (he : DE X W e f) (hs : swapsWith e (some (.Subscript o i spos)) pos.line X.env = pure false := by rfl) : DS X W (.Assign [.Subscript o i spos] e pos) (sSetN j fi f) := by
  obtain ⟨te, pe, se⟩ := he.ex
  obtain ⟨ti, pi, si⟩ := hi.ex
  refine ⟨_, ps_nput (by have := hr.units; omega) ho pi pe hs, fun σ F H ρ D E h => se σ F H ρ _ E ?_⟩
  unfold sSetN unS andS bnd at h
  cases e : f ρ with
  | bad => simp only [e] at h; exact h
  | exc c ρ1 => simp only [e] at h; exact fun F1 H1 g => h σ F1 H1 g.go
  | ok oe ρ1 =>
    simp only [e] at h
    intro F1 H1 g1 v r
    cases q : fz oe ρ1 with
    | bad => simp only [bnd, q] at h; exact h.elim
    | exc c ρ2 => exact absurd q fz_noexc
    | ok d ρ2 =>
      simp only [bnd, q] at h
      obtain ⟨F2, g2, rp, _⟩ := fz_ok E g1 r q
      have hv : ∃ w, σ[j]? = some (some w) ∧ sHas j ρ2 = .ok () ρ2 := by
        cases qv : sHas j ρ2 with
        | bad => simp only [qv] at h; exact h.elim
        | exc c ρ3 => unfold sHas at qv; split at qv <;> cases qv
        | ok u ρ3 =>
          unfold sHas at qv
          cases q4 : ρ2[j]? with
          | none => simp only [q4] at qv; cases qv
          | some s =>
            simp only [q4] at qv
            obtain ⟨o, e1, e2⟩ := g2.env.sl j s q4
            cases s with
            | own d => cases qv; obtain ⟨a, rfl, _⟩ := e2; exact ⟨_, e1, rfl⟩
            | inn d => cases qv; obtain ⟨a, rfl, _⟩ := e2; exact ⟨_, e1, rfl⟩
            | _ => cases qv
      obtain ⟨w, hσ, qv⟩ := hv
      simp only [qv] at h
      refine ⟨w, hσ, si σ F2 H1 ρ2 _ g2.env ?_⟩
      cases q3 : fi ρ2 with
      | bad => simp only [q3] at h; exact h
      | exc c ρ3 => simp only [q3] at h; exact fun F3 H3 g3 => h σ F3 H3 (g2.trans g3).go
      | ok oi ρ3 =>
        simp only [q3] at h
        intro F3 H3 g3 vi ri
        unfold rdd at h
        cases q5 : rd ρ3 oi with
        | none => simp only [q5] at h; exact h.elim
        | some k =>
          simp only [q5] at h
          have r1 := ri.rd1 g3.env q5
          cases qm : mutN j k d ρ3 with
          | bad => simp only [qm] at h; exact h.elim
          | exc c ρ4 => exact absurd qm mutN_noexc
          | ok u ρ4 =>
            simp only [qm] at h
            obtain ⟨a, kvs, ds, x, e1, hH, hx, hk, hl, hg⟩ := mutN_ok g3.env qm
            rw [hσ] at e1
            cases e1
            obtain ⟨b, rfl, rk⟩ := key_rd r1 hk
            have g4 := hg (putV kvs x b v) (hx.put hk rk (rp.mono g3.go.evo.le))
            exact ⟨F3, a, b, kvs, ds, k, x, g3.env.le, rfl, rfl, hH, hx, rk, hk, by rw [hx.length]; exact hl, h σ F3 _ (g2.trans (g3.trans g4)).go⟩
end
end Py
end L2

/-! ## sorted(d.values()) -/
namespace L2
namespace Py
open PySem PySem.Spec PyProof.Rows
section
open PySem.W
variable {prog : Program} {w : World} {A : Around} {E : Value → Shared → Prop} {s : Shared} {T : String} {r d : Addr} {n : Nat} {P : Nat → Value → Prop} {OK : Heap → Prop}
/-- what is walked, gathered into a list -/
theorem collect_src {Q : List Value → Shared → Prop} (K : KdlSrc prog w T r d n P OK) (hh : A.handled = none) (hok : OK s.heap) (hn : n ≤ sizeLine)
    (hQ : ∀ s' (out : Array Value), (∀ b o, s.heap.get? b = some o → s'.heap.get? b = some o) → s.heap.objs.size ≤ s'.heap.objs.size → s'.gens = s.gens → s'.drawn = s.drawn → s'.os = s.os → ItemsOf P out n → Q out.toList s') :
    wpAny (model prog w) A (collect (.ref r)) Q E s := by
  have hlt := K.there _ hok
  unfold collect
  refine wpAny_bind (wpAny_runValue (codeAny_builtin F.entry_proto_collect ?_))
  rw [Around.under_plainId F.plain_proto_collect _]
  show wpAny _ A.in1 (newList [] >>= fun l => again (.builtin "list.__iadd__" ⟨[l, .ref r], []⟩)) _ _ s
  refine wpAny_bind (wpAny_newObj_type ?_)
  refine wpAny_pure ⟨plainId_quiet F.plain_list_iadd _, codeAny_builtin F.entry_list_iadd ?_⟩
  rw [Around.under_plainId F.plain_list_iadd _]
  have hS : (s.heap.push { cls := .type "list", data := .seq ([] : List Value).toArray }).get? s.heap.objs.size = some { cls := .type "list", data := .seq ([] : List Value).toArray } := Heap.get?_push_size _ rfl
  show wpAny _ A.in1 (Builtin.List.listExtendWith (.ref s.heap.objs.size) (.ref r) (.ref s.heap.objs.size)) _ _ _
  refine kdl_extend (A := A) (R := fun r s' => match r with
    | .ok (.ret v) => wpAny (model prog w) A (match v with
      | .ref a => (do
        let o ← load a
        match o.data with
        | .seq xs _ => pure xs.toList
        | _ => unsupported "internal:collect")
      | _ => unsupported "internal:collect") Q E s'
    | .ok _ => False
    | .error e => E e s') (s := { s with heap := s.heap.push { cls := .type "list", data := .seq ([] : List Value).toArray } }) K hh (K.keep _ _ hok fun b _ o e => Heap.get?_push_of_some _ e) s.heap.objs.size (Nat.ne_of_gt hlt.1) (Nat.ne_of_gt hlt.2) _ 0 hS (fun h' tk acc' c' hk hS' hacc => ?_) hn
  show wpAny _ A (load s.heap.objs.size >>= _) _ _ _
  refine wpAny_bind (wpAny_load hS' ?_)
  refine wpAny_pure ?_
  exact hQ _ acc' (fun b u e => hk b u (Nat.ne_of_lt (Heap.lt_size e)) (Heap.get?_push_of_some _ e)) (Nat.le_of_lt (Heap.lt_size hS')) rfl rfl rfl hacc
theorem sorted_src {β : Type} {bs : List β} {enc : β → PyData} {R : Value → β → Prop} {Q : Value → Shared → Prop} (K : KdlSrc prog w T r d n P OK) (hh : A.handled = none) (hok : OK s.heap) (hn : n ≤ sizeLine)
    (he : ∀ out : Array Value, ItemsOf P out n → EachIs R out.toList bs) (er : ∀ v b, R v b → ∃ as, Reads s.heap v (enc b) as) (hal : AllAlike (bs.map enc)) (hk : Sortable (bs.map enc)) (hL : bs.length ≤ sizeLine)
    (hu : ∀ b, b ∈ bs → A.units + 2 + (enc b).depth < cLine)
    (hQ : ∀ (h' : Heap) (tk : Nat) (p : Addr) (out : List Value) (c : Nat), (∀ b o, s.heap.get? b = some o → h'.get? b = some o) → s.heap.objs.size ≤ p → h'.get? p = some (seqObj "list" out.toArray c) → out.length = bs.length → EachIs R out (bs.mergeSort (dataLe false enc)) → Q (.ref p) { s with heap := h', toks := tk }) :
    wpAny (model prog w) A (call (.builtin "sorted") [.ref r]) Q E s := by
  refine Calls.call_function_entry kind_sorted plain_sorted entry_sorted (args_sorted1 _) ?_
  unfold Builtin.«sorted»
  refine wpAny_bind (m := checkCount "sorted" 1 1 _) (wpAny_pure ?_)
  refine wpAny_bind (collect_src (A := A.in1) K hh hok hn fun s1 out k1 hz g1 d1 o1 hit => ?_)
  have e1 := he out hit
  generalize hvs : out.toList = vs at e1
  have hvl : vs.length = bs.length := e1.length
  refine wpAny_bind (wpAny_newList ?_ (by rw [hvl]; exact hL))
  have hoL : (s1.heap.push (seqObj "list" vs.toArray 0)).get? s1.heap.objs.size = some (seqObj "list" vs.toArray 0) := Heap.get?_push_size _ rfl
  have k2 : ∀ b u, s.heap.get? b = some u → (sortingHeap (s1.heap.push (seqObj "list" vs.toArray 0)) s1.heap.objs.size vs).get? b = some u := fun b u e =>
    sortingHeap_old (Nat.ne_of_lt (Heap.lt_size (k1 b u e))) (Heap.get?_push_of_some _ (k1 b u e))
  have er' : EachIs (fun v b => ∃ as, Reads (sortingHeap (s1.heap.push (seqObj "list" vs.toArray 0)) s1.heap.objs.size vs) v (enc b) as) vs bs := e1.mono fun v b rv => by
    obtain ⟨as, q⟩ := er v b rv
    exact ⟨as, PyProof.Rows.Reads.keeps (fun b u e => k2 b u e) q⟩
  have S : SortsAt prog w A.in1.in1 { s1 with heap := sortingHeap (s1.heap.push (seqObj "list" vs.toArray 0)) s1.heap.objs.size vs } (dataKind (sortingHeap (s1.heap.push (seqObj "list" vs.toArray 0)) s1.heap.objs.size vs) (bs.map enc)) vs :=
    SortsAt.data (s := { s1 with heap := sortingHeap (s1.heap.push (seqObj "list" vs.toArray 0)) s1.heap.objs.size vs }) (each_map (R := fun v d => ∃ as, Reads (sortingHeap (s1.heap.push (seqObj "list" vs.toArray 0)) s1.heap.objs.size vs) v d as) enc er') hal hk (bound_map hu)
  refine wpAny_bind (wpAny_holding (wpAny_call_entry slot_list_sort ⟨_, hoL, rfl⟩ entry_list_sort (list_sort_vals (s := { s1 with heap := s1.heap.push (seqObj "list" vs.toArray 0) }) hoL S (by rw [hvl]; exact hL) ⟨_, rfl, ?_⟩) (args_list_sort _)))
  obtain ⟨c, hc⟩ := sortedHeap_at (vs := vs) (out := (sortVals (dataKind (sortingHeap (s1.heap.push (seqObj "list" vs.toArray 0)) s1.heap.objs.size vs) (bs.map enc)) false vs vs).toArray) hoL
  refine wpAny_pure ⟨_, rfl, ?_⟩
  obtain ⟨hp, gn, dr, tk, os⟩ := s1
  dsimp only at g1 d1 o1 hz k1 hc
  subst g1 d1 o1
  refine hQ _ tk hp.objs.size _ c (fun b u e => ?_) hz hc (by rw [sortVals_length false rfl]; exact hvl) (sortVals_data false e1 er' hal)
  have q := k1 b u e
  have hlt := Heap.lt_size q
  show (sortedHeap (hp.push (seqObj "list" vs.toArray 0)) hp.objs.size vs _).get? b = some u
  rw [sortedHeap_old (Nat.ne_of_lt hlt) (by rw [size_push']; exact Nat.lt_succ_of_lt hlt)]
  exact Heap.get?_push_of_some _ q
end
theorem vals_each {K : PySem.W.Frag} {F : Hp} : ∀ {kvs : List (NestedKey × Addr × V)} {ds : List (PyData × PyData)} {ys : List NE}, RpN K F kvs ds → KTN kvs ys → PySem.W.EachIs (fun (u : Value) (d : PyData) => ∃ y, RelV y u ∧ Rp K F y d) (ys.map fun y => y.2.2) (ds.map (·.2))
  | _, _, _, .nil, .nil => .nil
  | _, _, _, .cons _ _ h2 t, .cons r rs => .cons ⟨_, r.2.2, h2⟩ (vals_each t rs)
def pVals (ds : List (PyData × PyData)) : Option Op := if okN ds = true ∧ okS (ds.map (·.2)) = true then some (.fr (.list (sortD (ds.map (·.2))))) else none
def pValsD : PyData → Option Op
  | .dict ds => pVals ds
  | _ => none
def rVals (K : PySem.W.Frag) : V → Hp → VK → Prop := fun x H Q => ∃ (F : Hp) (a : Addr) (kvs : List (NestedKey × Addr × V)) (ds : List (PyData × PyData)), Same F H ∧ x = .ref a ∧ IsN H a kvs ∧ RpN K F kvs ds ∧ okS (ds.map (·.2)) = true ∧
  ∀ ys p, ys.length = ds.length → RpL K F ys (sortD (ds.map (·.2))) → H p = none → Q (.ref p) (upd H p (.lst ys))
theorem p1_vals {K : PySem.W.Frag} : P1 K (rVals K) pValsD := by
  intro F H x d o Q le rx ho q
  unfold pValsD at ho
  split at ho
  · unfold pVals at ho
    split at ho
    · rename_i ds h
      cases ho
      obtain ⟨a, kvs, rfl, hn, r⟩ := isN_of rx h.1
      exact ⟨F, a, kvs, ds, le, rfl, hn, r, h.2, fun ys p hl r hp => gives_lst le r hp q⟩
    · cases ho
  · cases ho
section
variable {X : Cx} {o : Expr} {p pos apos mpos : Pos} {td : TE}
open PySem.W in
theorem pe_sortVals (hc : X.calm = true) (hu : X.A.units + 64 < cLine) (hg : Gl X "sorted") (hm : X.mg "sorted" = none) (hd : PE X o td) (hbase : attributeBase o "values" X.env (eval o X.env) = eval o X.env := by rfl) (hline : (apos.endLine == mpos.line) = true := by rfl)
    (hse : starEach [Expr.Call (.Attribute o "values" apos) [] [] mpos] X.env = [(false, eval (Expr.Call (.Attribute o "values" apos) [] [] mpos) X.env)] := by rfl) :
    PE X (.Call (.Name "sorted" p) [.Call (.Attribute o "values" apos) [] [] mpos] [] pos) (tUn (rVals X.K) td) := by
  refine ⟨fun pins s σ H Q I h => ?_⟩
  refine wpAny_Call_Name_kw (ld_blt I hg hm (u := .builtin "sorted") (by first | rfl | decide +kernel) ?_ (by first | decide +kernel | decide) (by first | decide +kernel | decide))
  rw [hse]
  refine PySem.callWith_builtin1 (wpAny_Call_method0_late hbase hline (thn (hd.run pins s σ H _ I h) fun v s1 ⟨x, H1, I1, r1, Fa, a, kvs, ds, le, ex, hn, rr, ok, q⟩ => ?_))
  subst ex
  obtain rfl : v = Value.ref a := r1
  obtain ⟨hsys, hz, ys, kt, dd⟩ := nd_heap I1 le hn rr
  obtain ⟨ob, es, ep, ho, ex, hdat, hes, _, _⟩ := dd
  refine ⟨"dict", "dict.values", PySem.F.plainAttrs_dict, PySem.F.slot_dict_values, PySem.F.type_dict_values, ⟨ob, ho, ex.1⟩, fun b e => ?_, Calls.callWith_builtin rfl (PySem.evalArgs_none ?_)⟩
  · cases e
    exact ⟨ob, ho, ex.2.1⟩
  refine call_meetsIn PySem.F.slot_dict_values ⟨ob, ho, ex.1⟩ PySem.F.entry_dict_values (PySem.F.args_dict_values_1 _) (meets_dict_values_raw a hsys) ⟨⟨es, ep, ob, ho, ex, hdat⟩, ?_⟩
  have k1 : ∀ b u, s1.heap.get? b = some u → (s1.heap.push { cls := .type "dict_values", data := .fields #[.ref a] }).get? b = some u := fun b u e => Heap.get?_push_of_some _ e
  have I2 : Inv X pins σ H1 { s1 with heap := s1.heap.push { cls := .type "dict_values", data := .fields #[.ref a] } } := I1.kept (t' := s1.toks) k1
  obtain ⟨k1', k2', k3'⟩ := okS_iff ok
  have hel : es.size = ds.length := by
    rw [← Array.length_toList, hes, List.length_map, ← Paired.length kt, rr.length]
  have hvals : es.toList.map (·.val) = ys.map fun y => y.2.2 := by rw [hes, List.map_map]; rfl
  refine sorted_src (s := { s1 with heap := s1.heap.push { cls := .type "dict_values", data := .fields #[.ref a] } }) (bs := ds.map (·.2)) (enc := id) (R := fun (u : Value) (d : PyData) => ∃ y, RelV y u ∧ Rp X.K Fa y d)
    (KdlSrc.rawValues (d := a) (es := es) (ep := ep) (r := s1.heap.objs.size)) (I.ok.hd hc) ⟨⟨_, Heap.get?_push_size _ rfl, rfl, rfl⟩, ob, k1 _ _ ho, ex, hdat⟩ (by rw [hel, ← rr.length]; exact hz) (fun out hit => ?_) (fun v b ⟨y, rv, rp⟩ => Rp.reads I2 b y v (rp.mono le) rv)
    (by rw [List.map_id]; exact k1') (by rw [List.map_id]; exact k2') (by rw [List.length_map, ← rr.length]; exact hz) (fun b hb => ?_) fun h' tk p out c kk hp hget hlen eo => ?_
  · have e : out.toList = es.toList.map (·.val) := by
      refine List.ext_getElem? fun i => ?_
      rw [List.getElem?_map]
      cases q1 : out[i]? with
      | none =>
        have h1 : ¬ i < out.size := by intro z; rw [Array.getElem?_eq_getElem z] at q1; cases q1
        have h2 : es.toList[i]? = none := List.getElem?_eq_none (by rw [Array.length_toList, ← hit.1]; omega)
        rw [Array.getElem?_toList, q1, h2]; rfl
      | some u =>
        obtain ⟨hi, e⟩ := hit.2 i u q1
        rw [Array.getElem?_toList, q1, Array.getElem?_toList, Array.getElem?_eq_getElem hi, e]; rfl
    rw [e, hvals]
    exact vals_each rr kt
  · have := depthAll_mem hb
    show X.A.units + 2 + b.depth < cLine
    omega
  · obtain ⟨zs, h1, h2⟩ := each_back eo
    have hyl : zs.length = ds.length := by rw [h1.length, hlen, List.length_map]
    refine ⟨.ref p, upd H1 p (.lst zs), I2.laid (t' := tk) kk hp ⟨?_, out, c, h1, hget⟩, rfl, q zs p hyl h2 (I2.hok.fresh hp)⟩
    rw [hyl, ← rr.length]; exact hz
theorem de_sortVals {W : XW} {f : En → Res Op} {k : Nat} (hr : Room k X.A) (hc : X.calm = true) (hg : Gl X "sorted") (hm : X.mg "sorted" = none) (hd : DE X W o f) (hbase : attributeBase o "values" X.env (eval o X.env) = eval o X.env := by rfl) (hline : (apos.endLine == mpos.line) = true := by rfl)
    (hse : starEach [Expr.Call (.Attribute o "values" apos) [] [] mpos] X.env = [(false, eval (Expr.Call (.Attribute o "values" apos) [] [] mpos) X.env)] := by rfl) :
    DE X W (.Call (.Name "sorted" p) [.Call (.Attribute o "values" apos) [] [] mpos] [] pos) (sP1 pValsD f) :=
  de_1 p1_vals (fun _ pa => pe_sortVals hc hr.units hg hm pa hbase hline hse) hd
end
/-! ## dict([(k, v), ..]) with tuples as keys -/
def pairsN : List PyData → Option (List (PyData × PyData))
  | [] => some []
  | .tuple [k, v] :: ds => if (keyT k).isSome = true then (pairsN ds).map ((k, v) :: ·) else none
  | _ => none
def mergeN (acc ps : List (PyData × PyData)) : List (PyData × PyData) := ps.foldl (fun acc p => putN acc p.1 p.2) acc
def mergeV (acc kvs : List (NestedKey × Addr × V)) : List (NestedKey × Addr × V) := kvs.foldl (fun acc p => putV acc p.1 p.2.1 p.2.2) acc
theorem merge_ok {K : PySem.W.Frag} {F : Hp} : ∀ {kvs : List (NestedKey × Addr × V)} {ps : List (PyData × PyData)} {prs : List NE} {acc : List (NestedKey × Addr × V)} {da : List (PyData × PyData)} {ya : List NE}, RpN K F kvs ps → KTN kvs prs → RpN K F acc da → KTN acc ya →
    RpN K F (mergeV acc kvs) (mergeN da ps) ∧ KTN (mergeV acc kvs) (storedAllH ya prs)
  | _, _, _, _, _, _, .nil, .nil, h, t => ⟨h, t⟩
  | _, _, _, _, _, _, .cons e hb h2 r, .cons (b := q) z rs, h, t => by
    obtain ⟨k2, b2, u2⟩ := q
    obtain ⟨e1, e2, e3⟩ := z
    dsimp only at e1 e2 e3
    subst e1 e2
    have := merge_ok r rs (h.put e hb h2) (ktn_put e3 t)
    exact this
theorem mergeV_len : ∀ (kvs acc : List (NestedKey × Addr × V)), (mergeV acc kvs).length ≤ acc.length + kvs.length
  | [], acc => Nat.le_refl _
  | p :: kvs, acc => by
    have h1 := mergeV_len kvs (putV acc p.1 p.2.1 p.2.2)
    have h2 := putV_len acc p.1 p.2.1 p.2.2
    show (mergeV (putV acc p.1 p.2.1 p.2.2) kvs).length ≤ _
    rw [List.length_cons]; omega
theorem mergeN_ne : ∀ {ps acc : List (PyData × PyData)}, acc ≠ [] → mergeN acc ps ≠ []
  | [], _, h => h
  | p :: ps, acc, _ => mergeN_ne (ps := ps) (acc := putN acc p.1 p.2) putN_ne
theorem ents_any {P : Program} {w : World} {es : Array DictEntry} {ys : List NE} (hk : ∀ q ∈ ys, ∃ kd, keyT kd = some q.1) (h : es.toList = ys.map (entryOfKey (nestedKind P w))) (w' : World) : es.toList = ys.map (entN w') := by
  rw [h]
  refine List.map_congr_left fun q m => ?_
  obtain ⟨kd', e'⟩ := hk q m
  unfold entN entryOfKey
  rw [show (nestedKind P w).hash q.1 = q.1.hash w from rfl, keyN_hash w w' kd' q.1 (keyT_N e').1]
section
variable {X : Cx} {pins : List (Addr × Obj)} {σ : St} {H F : Hp} {s : Shared}
theorem pairsN_of (I : Inv X pins σ H s) (le : Same F H) : ∀ (ds : List PyData) (ys : List V) (its : List Value) (ps : List (PyData × PyData)), RpL X.K F ys ds → Vals ys its → pairsN ds = some ps →
    ∃ (kvs : List (NestedKey × Addr × V)) (prs : List NE) (Ts : List Addr), KTN kvs prs ∧ RpN X.K F kvs ps ∧ its = Ts.map Value.ref ∧ Ts.length = prs.length ∧ ∀ (j : Nat) (q : NE), prs[j]? = some q → ∃ T, Ts[j]? = some T ∧ s.heap.IsTuple T #[.ref q.2.1, q.2.2]
  | [], _, _, _, h, r, e => by
    cases h; cases r
    simp only [pairsN, Option.some.injEq] at e
    subst e
    exact ⟨[], [], [], .nil, .nil, rfl, rfl, fun j q z => by simp at z⟩
  | d :: ds, _, _, ps, h, r, e => by
    cases h with
    | cons h1 h2 =>
      cases r with
      | cons r1 r2 =>
        unfold pairsN at e
        split at e
        · rename_i heq; cases heq
        · rename_i k v ds' heq
          cases heq
          split at e
          · rename_i hk
            obtain ⟨x, hx⟩ := Option.isSome_iff_exists.mp hk
            cases q : pairsN ds with
            | none => rw [q] at e; cases e
            | some ps' =>
              rw [q] at e
              cases e
              obtain ⟨kvs, prs, Ts, a1, a2, a3, a4, a5⟩ := pairsN_of I le ds _ _ ps' h2 r2 q
              cases h1 with
              | tup hs ha =>
                cases r1
                cases ha with
                | cons rk ha2 =>
                  cases ha2 with
                  | cons rv ha3 =>
                    cases ha3
                    obtain ⟨b, rfl, rk2⟩ := key_rd (Rd1.of le rk) hx
                    obtain ⟨its2, rv2, ⟨o, ho, hc, n, hd⟩, _⟩ := I.tuple (same_sqT le hs.sq)
                    obtain ⟨u1, u2, ei, ru1, ru2⟩ := vals2 rv2
                    subst ei
                    obtain rfl : u1 = Value.ref b := ru1
                    refine ⟨_, (x, b, u2) :: prs, _ :: Ts, .cons (a := (x, b, _)) ⟨rfl, rfl, ru2⟩ a1, .cons hx rk2 rv a2, by rw [a3]; rfl, by rw [List.length_cons, List.length_cons, a4], fun j q' z => ?_⟩
                    cases j with
                    | zero =>
                      have z : (x, b, u2) = q' := Option.some.inj z
                      subst z
                      exact ⟨_, rfl, o, ho, hc, n, hd⟩
                    | succ j =>
                      obtain ⟨T, t1, t2⟩ := a5 j q' (by simpa using z)
                      exact ⟨T, by simpa using t1, t2⟩
          · cases e
        · cases e
end
def rDicN (K : PySem.W.Frag) : List V → Hp → VK → Prop := fun xs H Q => ∃ (F : Hp) (a : Addr) (ys : List V) (ds : List PyData) (ps : List (PyData × PyData)), xs = [.ref a] ∧ Same F H ∧ SqL K H a ys ∧ RpL K F ys ds ∧ pairsN ds = some ps ∧
  ∀ p kvs, H p = none → RpN K F kvs (mergeN [] ps) → Q (.ref p) (upd H p (ND p kvs))
theorem call_dicN {X : Cx} (hcalm : X.calm = true) (hu : X.A.units + 64 < cLine) : CallR X (.type "dict") (rDicN X.K) := by
  intro pins s σ H xs us Q I r q
  obtain ⟨Fa, a, ys, ds, ps, ex, le, hq, rl, hp, q⟩ := q
  subst ex
  obtain ⟨u, eu, rx⟩ := vals1 r
  subst eu
  cases rx
  obtain ⟨its, rv, pl, hz⟩ := I.list hq
  obtain ⟨kvs, prs, Ts, kt, rn, ei, hl, hat⟩ := pairsN_of I le ds ys its ps rl rv hp
  subst ei
  obtain ⟨o, n, ho, hc, hd, hdat⟩ := pl
  have hkeys : ∀ y ∈ prs, (nestedKind X.prog X.w).is s.heap y.1 y.2.1 := fun y m => by
    obtain ⟨kd, e, rk⟩ := rn.all kt y m
    exact key_nk I (rk.mono le) e
  have hlen : prs.length = ys.length := by rw [← hl, rv.length, List.length_map]
  have hTs : ∀ j, j < prs.length → Ts[j]? = some (Ts.getD j 0) := fun j hj => by
    rw [List.getD_eq_getElem?_getD, List.getElem?_eq_getElem (by rw [hl]; exact hj)]; rfl
  refine call_dict_pairsH (knd := nestedKind X.prog X.w) (ps := prs) (PairArg.list a (Ts.map Value.ref).toArray (fun j => Ts.getD j 0) (prs.map fun y => (Value.ref y.2.1, y.2.2))) (I.ok.hd hcalm) (by show X.A.in1.in1.units + 8 < cLine; simp only [Around.in1_units]; omega)
    ⟨⟨o, n, ho, hc, hd, hdat⟩, by rw [List.size_toArray, List.length_map, List.length_map, hl], fun j k v e => ?_⟩ ⟨by rw [List.length_map], fun i key v e => ?_⟩ (fun h' hk x m => ?_) (by rw [List.length_map, hlen]; exact hz) fun h' tk dd hk => ?_
  · rw [List.getElem?_map, Option.map_eq_some_iff] at e
    obtain ⟨y, e1, e2⟩ := e
    cases e2
    have hj := (List.getElem?_eq_some_iff.mp e1).1
    obtain ⟨T, t1, t2⟩ := hat j y e1
    rw [hTs j hj] at t1
    cases t1
    refine ⟨?_, .inl t2⟩
    rw [List.getElem?_toArray, List.getElem?_map, hTs j hj]; rfl
  · have e : (prs.map fun y => (Value.ref y.2.1, y.2.2))[i]? = some (key, v) := e
    rw [List.getElem?_map, Option.map_eq_some_iff] at e
    obtain ⟨y, e1, e2⟩ := e
    cases e2
    exact ⟨y.1, y.2.1, e1, rfl⟩
  · obtain ⟨n1, n2⟩ := hkeys x m
    exact ⟨NestedIs.at (fun b ob vs n' h1 _ => hk b ob (Nat.ne_of_lt (Heap.lt_size h1)) (by simp) h1) _ _ n1, n2⟩
  · obtain ⟨m1, m2⟩ := merge_ok rn kt (acc := []) (da := []) (ya := []) .nil .nil
    obtain ⟨o', es, ep, h1, h2, h3, h4, _, h5⟩ := dd
    have hz' : (mergeV [] kvs).length ≤ sizeLine := by
      have := mergeV_len kvs []
      rw [List.length_nil, Paired.length kt, hlen] at this
      omega
    have I2 := I.laid (a := s.heap.objs.size) (o := ND s.heap.objs.size (mergeV [] kvs)) (t' := tk) (fun b u e => hk b u (by simp) e) (Nat.le_refl _) (nd_obj ⟨beq_eq_false_iff_ne.mpr (Nat.ne_of_gt I.big), hz', _, m2, o', es, ep, h1, h2, h3, ents_any (fun y m => by
      obtain ⟨kd, e, _⟩ := m1.all m2 y m
      exact ⟨kd, e⟩) h4, h5⟩)
    exact ⟨.ref s.heap.objs.size, _, I2, rfl, q _ _ (I.hok.fresh (Nat.le_refl _)) m1⟩
def pDicOf2 (xs : List PyData) : Option Op := match xs with
  | [.list (d :: ds)] => (match pairsN (d :: ds) with
    | some ps => some (.fr (.dict (mergeN [] ps)))
    | none => pDicOf xs)
  | _ => pDicOf xs
theorem pairsN_ne {d : PyData} {ds : List PyData} {ps : List (PyData × PyData)} (h : pairsN (d :: ds) = some ps) : ps ≠ [] := by
  unfold pairsN at h
  split at h
  · rename_i e; cases e
  · split at h
    · rw [Option.map_eq_some_iff] at h
      obtain ⟨_, _, rfl⟩ := h
      simp
    · cases h
  · cases h
theorem mergeN_ne0 {ps : List (PyData × PyData)} (h : ps ≠ []) : mergeN [] ps ≠ [] := by
  cases ps with
  | nil => exact absurd rfl h
  | cons p ps => exact mergeN_ne (ps := ps) (acc := putN [] p.1 p.2) putN_ne
theorem gives_dicN {K : PySem.W.Frag} {F H : Hp} {ds : List (PyData × PyData)} {kvs : List (NestedKey × Addr × V)} {Q : VK} {p : Addr} (le : Same F H) (r : RpN K F kvs ds) (ne : ds ≠ []) (hp : H p = none) (h : Gives K F H (.fr (.dict ds)) Q) : Q (.ref p) (upd H p (ND p kvs)) := by
  have hF : F p = none := le.free hp
  refine h (.ref p) F _ ⟨Same.refl _, fun a o q n => ?_, fun a o q n => rfl, fun a o q => ?_⟩ (fun a o q => ?_) ⟨p, rfl, hp, .inr ⟨kvs, upd_same, hF, r, ne⟩⟩
  · rw [upd_ne (ne_of_none q hp)]; exact q
  · rw [upd_ne (ne_of_none q hp)]; exact ⟨o, q⟩
  · rw [upd_ne (ne_of_none (le _ _ q) hp)]; exact le _ _ q
theorem pn_dicOf2 {K : PySem.W.Frag} : PN K (fun xs H Q => rDicN K xs H Q ∨ (∃ (a : Addr) (ps : List Addr) (kvs : List (Key × V)), xs = [.ref a] ∧ SqL K H a (ps.map V.ref) ∧ Paired (fun p kv => SqT K H p [kV kv.1, kv.2]) ps kvs ∧ ∀ p, H p = none → Q (.ref p) (upd H p (.dK (mergeK [] kvs))))) pDicOf2 := by
  intro F H xs ds o Q le rs ho q
  unfold pDicOf2 at ho
  split at ho
  · split at ho
    · rename_i d ds _ ps e
      cases ho
      obtain ⟨v, rfl, a, ys, rfl, h1, r1⟩ := rds1 rs
      exact .inl ⟨F, a, ys, d :: ds, ps, rfl, le, h1, r1, e, fun p kvs hp r => gives_dicN le r (mergeN_ne0 (pairsN_ne e)) hp q⟩
    · exact .inr (pn_dicOf F H xs _ o Q le rs ho q)
  · exact .inr (pn_dicOf F H xs _ o Q le rs ho q)
end Py
end L2

/-! ## a test that only looks: some own things are taken as fast, all others lent; behind it all is as ahead -/
namespace L2
namespace Py
open PySem PySem.Spec PyProof.Rows
def frzJ : List Nat → En → Option En
  | [], ρ => some ρ
  | j :: js, ρ => match ρ[j]? with
    | some (.own d) => frzJ js (ρ.set j (.val d))
    | some (.val _) => frzJ js ρ
    | _ => none
theorem frzJ_ok {K : PySem.W.Frag} {σ : St} {H : Hp} : ∀ {js : List Nat} {ρ ρ' : En} {F : Hp}, EnvR K F H σ ρ → frzJ js ρ = some ρ' → ∃ F', EnvR K F' H σ ρ'
  | [], ρ, ρ', F, E, h => by cases h; exact ⟨F, E⟩
  | j :: js, ρ, ρ', F, E, h => by
    unfold frzJ at h
    cases q : ρ[j]? with
    | none => simp only [q] at h; cases h
    | some s =>
      simp only [q] at h
      cases s with
      | own d =>
        obtain ⟨a, xs, h1, hF, hH, g, rp⟩ := goFast E q (.inl ⟨rfl, rfl⟩)
        exact frzJ_ok (js := js) g.env h
      | val d => exact frzJ_ok (js := js) E h
      | _ => cases h
theorem lendJ_mut {ρ : En} {i : Nat} {s : Sl} (h : (lend ρ)[i]? = some s) : s.mut = false := by
  unfold lend at h
  rw [List.getElem?_map] at h
  cases q : ρ[i]? with
  | none => rw [q] at h; cases h
  | some s0 => rw [q] at h; cases h; exact lend1_mut s0
theorem lendJ_env {K : PySem.W.Frag} {F H : Hp} {σ : St} {ρ : En} (E : EnvR K F H σ ρ) : EnvR K F H σ (lend ρ) := by
  refine ⟨?_, E.le, fun i t q => ?_, fun i k s t a _ q1 _ m _ _ _ => ?_⟩
  · unfold lend; rw [List.length_map, E.len]
  · unfold lend at q
    rw [List.getElem?_map] at q
    cases q0 : ρ[i]? with
    | none => rw [q0] at q; cases q
    | some s0 =>
      rw [q0] at q; cases q
      obtain ⟨o, h1, h2⟩ := E.sl i s0 q0
      exact ⟨o, h1, lend1_slt h2⟩
  · rw [lendJ_mut q1] at m; cases m
theorem lendJ_own {σ : St} {ρ : En} {a : Addr} (h : ownA σ (lend ρ) a) : False := by
  rcases h with ⟨i, d, h1, _⟩ | ⟨i, d, h1, _⟩
  · have := lendJ_mut h1; cases this
  · have := lendJ_mut h1; cases this
theorem lendJ_same {K : PySem.W.Frag} {F H F' H' : Hp} {σ : St} {ρ ρ' : En} (g : GoE K σ (lend ρ) F H ρ' F' H') : Same H H' := fun a o h => g.go.evo.keep a o h lendJ_own
def sLook (js : List Nat) (t : En → Res Bool) : En → Res Bool := fun ρ => match frzJ js ρ with
  | some ρ2 => (match t (lend ρ2) with
    | .ok b _ => .ok b ρ
    | _ => .bad)
  | none => .bad
section
variable {X : Cx} {W : XW} {e : Expr} {t : En → Res Bool}
theorem dt_look (js : List Nat) (ht : DT X W e t) : DT X W e (sLook js t) := by
  obtain ⟨tt, pt, qt⟩ := ht.ex
  refine ⟨tt, pt, fun σ F H ρ Q E h => ?_⟩
  unfold sLook at h
  cases q : frzJ js ρ with
  | none => simp only [q] at h; exact h.elim
  | some ρ2 =>
    simp only [q] at h
    obtain ⟨F2, E2⟩ := frzJ_ok E q
    refine qt σ F2 H (lend ρ2) Q (lendJ_env E2) ?_
    cases q2 : t (lend ρ2) with
    | bad => simp only [q2] at h; exact h.elim
    | exc c r => simp only [q2] at h; exact h.elim
    | ok b ρ' =>
      simp only [q2] at h
      intro F' H' g
      have sH := lendJ_same g
      exact h F H' (GoE.news E ⟨Same.refl _, fun a o ho _ => sH a o ho, fun _ _ _ _ => rfl, fun a o ho => ⟨o, sH a o ho⟩⟩ (E.le.trans sH))
end
end Py
end L2

namespace L2
namespace Py
open PySem PySem.Spec PyProof.Rows
/-! ## a dict display with one pair -/
section
variable {K : PySem.W.Frag} {σ : St} {F H F2 H2 : Hp} {ρ ρ2 : En} {p : Addr} {d d' : PyData}
/-- a new thing that nobody else holds is changed -/
theorem goSetN {o : HO} (E0 : EnvR K F H σ ρ) (g : GoE K σ ρ F H ρ2 F2 H2) (n : H p = none) (hF : F2 p = none) : GoE K σ ρ F H ρ2 F2 (upd H2 p o) := by
  have ev : Evo (fun b => b = p) F2 H2 F2 (upd H2 p o) := ⟨Same.refl _, fun b o' q z => by rw [upd_ne z]; exact q, fun b o q z => rfl, fun b o' q => by
    by_cases e : b = p
    · subst e; exact ⟨_, upd_same⟩
    · rw [upd_ne e]; exact ⟨_, q⟩⟩
  have E : EnvR K F2 H2 σ ρ2 := g.env
  have nA : ∀ (i : Nat) (s : Sl) (b : Addr), ρ2[i]? = some s → s.plc = true → σ[i]? = some (some (.ref b)) → b ≠ p := fun i s b h1 h2 h3 z => by
    subst z
    have hn : ∀ {s0 : Sl}, ρ[i]? = some s0 → s0.plc = true → False := fun {s0} q p => by
      obtain ⟨⟨o, hq⟩, _⟩ := E0.plc_there q p h3
      rw [n] at hq; cases hq
    cases s with
    | no => cases h2
    | val d => cases h2
    | fix d => cases h2
    | own d => obtain ⟨d0, q⟩ := g.ow i d h1; exact hn q rfl
    | inn d => obtain ⟨d0, q⟩ := g.go.inn i d h1; exact hn q rfl
    | bor d => exact hn (g.go.bor i d h1) rfl
  have le : Same F2 (upd H2 p o) := fun b o' q => by
    by_cases e : b = p
    · subst e; rw [hF] at q; cases q
    · rw [upd_ne e]; exact E.le _ _ q
  have E' := E.evo ev le nA
  exact ⟨⟨g.go.evo.trans ev fun b e => .inr (by rw [e]; exact n), E', g.go.own, g.go.inn, g.go.bor, g.go.kin, g.go.kbo, g.go.kfx, g.go.len⟩, g.ow⟩
theorem own_not {E0 : EnvR K F H σ ρ} (n : H p = none) : ¬ ownA σ ρ p := fun z => by
  obtain ⟨o, e⟩ := own_there E0 z
  rw [n] at e; cases e
end
/-- {i: e} with a number i -/
def sDic1 (i : Int) (f : En → Res Op) : En → Res Op := bnd f fun o => bnd (fz o) fun d ρ => .ok (.fr (.dict [(.int i, d)])) ρ
section
variable {X : Cx} {W : XW} {ek ev : Expr} {pos : Pos} {f : En → Res Op} {i : Int}
theorem de_dic1 (hk : DE X W ek (sC (.int i))) (hv : DE X W ev f) : DE X W (.Dict [some ek] [ev] pos) (sDic1 i f) := by
  obtain ⟨tk, pk, sk⟩ := hk.ex
  obtain ⟨tv, pv, sv⟩ := hv.ex
  refine ⟨_, pe_disp (pps_cons pk pv pps_nil) rfl rfl (by simp) (by simp), fun σ F H ρ Q E h p hp => ?_⟩
  have g0 := GoE.lay E hp (.dK [])
  show tk σ (upd H p (.dK [])) _
  refine sk σ F _ ρ _ g0.env ?_
  intro F1 H1 g1 v1 r1
  show tv σ H1 _
  refine sv σ F1 H1 ρ _ g1.env ?_
  have g01 := g0.trans g1
  have nn : ¬ ownA σ ρ p := own_not (E0 := E) hp
  unfold sDic1 bnd at h
  cases e : f ρ with
  | bad => simp only [e] at h; exact h
  | exc c ρ1 => simp only [e] at h; exact fun F2 H2 g2 => h F2 H2 (g01.trans g2)
  | ok o ρ1 =>
    simp only [e] at h
    intro F2 H2 g2 v2 r2
    cases q : fz o ρ1 with
    | bad => simp only [q] at h; exact h.elim
    | exc c ρ2 => exact absurd q fz_noexc
    | ok d ρ2 =>
      simp only [q] at h
      obtain ⟨F3, g3, rp, sF, ch⟩ := fz_ok g1.env g2 r2 q
      have e1 : H1 p = some (.dK []) := g1.go.evo.keep p _ upd_same nn
      have f1 : F1 p = none := by
        rw [g1.go.evo.keepF p _ upd_same nn]; exact E.le.free hp
      have e2 : H2 p = some (.dK []) := g2.go.evo.keep p _ e1 nn
      have f2 : F3 p = none := by
        rw [g3.go.evo.keepF p _ e1 nn]; exact f1
      have r1 : Rp X.K F1 v1 (.int i) := r1
      obtain rfl : v1 = .int i := by cases r1; rfl
      have gg := goSetN (o := .dK [(Sum.inl i, v2)]) E (g01.trans g3) hp f2
      refine ⟨e2, [(Sum.inl i, v2)], rfl, by simp, ?_⟩
      exact h F3 _ gg _ ⟨p, rfl, hp, .inl ⟨[(Sum.inl i, v2)], upd_same, f2, .cons rp .nil⟩⟩
end
/-! ## max(d), the keys numbers -/
def rMaxK (K : PySem.W.Frag) : List V → Hp → VK → Prop := fun xs H Q => ∃ (a : Addr) (kvs : List (Key × V)) (ns : List Int), xs = [.ref a] ∧ Rd H a (.dK kvs) ∧ kvs.map Prod.fst = ns.map Sum.inl ∧ 0 < ns.length ∧ ∀ m, m ∈ ns → (∀ y, y ∈ ns → y ≤ m) → Q (.int m) H
theorem cr_maxK {X : Cx} (hc : X.calm = true) : CallR X (.builtin "max") (rMaxK X.K) := by
  intro pins s σ H xs us Q I rx h
  obtain ⟨a, kvs, ns, rfl, e, hns, hne, q⟩ := h
  rw [Vals.ref1 rx]
  obtain ⟨hz, hd, vs, rel, dd⟩ := dk_rd I.hok e
  obtain ⟨ob, es, ep, ho, hx, hdat, hko, hpr, hnd⟩ := dd
  have hl : vs.length = ns.length := by
    have e1 := congrArg List.length hns
    rw [List.length_map, List.length_map] at e1
    rw [← rel.length]; exact e1
  have hes : es.size = vs.length := by
    have := hpr.length
    rw [Array.length_toList] at this; exact this
  refine call_max_walk ?_
  refine iter_keys hd ho hx hdat ?_
  have ha : a < s.heap.objs.size := Heap.lt_size ho
  have k1 : ∀ b u, s.heap.get? b = some u → (s.heap.push { cls := .type "dict_keyiterator", data := .fields #[.ref a, .int 0 0, .int es.size 0, .int ep 0] }).get? b = some u := fun b u e => Heap.get?_push_of_some _ e
  have hP : ∀ i v, (∃ k x, vs[i]? = some (k, x) ∧ (mixKind X.prog X.w).is k v = true) → ∃ t, v = .int (ns.getD i 0) t := fun i v ⟨k, x, hk, hv⟩ => by
    have hi : i < vs.length := (List.getElem?_eq_some_iff.mp hk).1
    have hi2 : i < kvs.length := by rw [rel.length]; exact hi
    have hi3 : i < ns.length := by omega
    have e1 : (kvs.map Prod.fst)[i]? = (ns.map Sum.inl)[i]? := by rw [hns]
    rw [List.getElem?_map, List.getElem?_map, List.getElem?_eq_getElem hi2, List.getElem?_eq_getElem hi3] at e1
    have e2 : kvs[i].1 = Sum.inl ns[i] := Option.some.inj e1
    obtain ⟨u, hu, ru⟩ := kv_get rel (i := i) (k := kvs[i].1) (v := kvs[i].2) (List.getElem?_eq_getElem hi2)
    rw [hk] at hu
    have e4 : k = kvs[i].1 := by injection hu with z; injection z
    rw [e4, e2] at hv
    have hv : keyIs (Sum.inl ns[i]) v = true := hv
    rcases keyIs_shape hv with ⟨j, t, q1, q2⟩ | ⟨y, t, q1, q2⟩
    · injection q1 with q1
      exact ⟨t, by rw [q2, List.getD_eq_getElem?_getD, List.getElem?_eq_getElem hi3, ← q1]; rfl⟩
    · exact nomatch q1
  refine ⟨s.heap.objs.size, [s.heap.objs.size, a], [s.heap.objs.size], vs.length, fun i v => ∃ k x, vs[i]? = some (k, x) ∧ (mixKind X.prog X.w).is k v = true, _, fun i j => decide (ns.getD i 0 > ns.getD j 0), rfl, Walks.dictKeys (knd := mixKind X.prog X.w) (show X.A.in1.handled = none from I.ok.hd hc) s.heap.objs.size a (Nat.ne_of_lt ha) vs ep, ⟨⟨_, Heap.get?_push_size _ rfl, rfl, by rw [hes]; rfl⟩, ob, es, k1 _ _ ho, hx, hdat, hko, hpr, hnd⟩, fun b hb => ?_, by omega, CmpOf.ints_gt (fun i => ns.getD i 0) hP, fun v h' tk hv' hk => ?_⟩
  · show b < (s.heap.push _).objs.size
    rw [size_push']
    rcases List.mem_cons.mp hb with z | z
    · rw [z]; exact Nat.lt_succ_self _
    · rw [List.mem_singleton.mp z]; exact Nat.lt_succ_of_lt ha
  · obtain ⟨t, rfl⟩ := hP _ _ hv'
    obtain ⟨m1', m2'⟩ := argBest_gt (fun i => ns.getD i 0) (vs.length - 1)
    have m1 : argBest (fun i j => decide (ns.getD i 0 > ns.getD j 0)) (vs.length - 1) ≤ vs.length - 1 := m1'
    have m2 : ∀ j, j ≤ vs.length - 1 → ns.getD j 0 ≤ ns.getD (argBest (fun i j => decide (ns.getD i 0 > ns.getD j 0)) (vs.length - 1)) 0 := m2'
    have hk2 : ∀ b o, s.heap.get? b = some o → h'.get? b = some o := fun b o e => hk b o (fun z => by rw [List.mem_singleton.mp z] at e; exact absurd (Heap.lt_size e) (Nat.lt_irrefl _)) (Heap.get?_push_of_some _ e)
    refine ⟨.int _, H, I.kept (t' := tk) hk2, ⟨t, rfl⟩, q _ (PySem.getD_mem (by omega)) fun y hy => ?_⟩
    obtain ⟨j, hj, e⟩ := List.mem_iff_getElem.mp hy
    have z := m2 j (by omega)
    have e3 : ns.getD j 0 = y := by rw [List.getD_eq_getElem?_getD, List.getElem?_eq_getElem hj, ← e] <;> rfl
    rw [e3] at z
    exact z
def intKeys : List (PyData × PyData) → Option (List Int)
  | [] => some []
  | (.int i, _) :: r => (intKeys r).map (i :: ·)
  | _ => none
def topI : List Int → Int
  | [] => 0
  | n :: ns => ns.foldl max n
theorem foldl_max_ge : ∀ (ns : List Int) (a : Int), a ≤ ns.foldl max a
  | [], a => Int.le_refl a
  | n :: ns, a => by
    rw [List.foldl_cons]
    exact Int.le_trans (Int.le_max_left a n) (foldl_max_ge ns _)
theorem foldl_max_mem : ∀ (ns : List Int) (a : Int), ns.foldl max a = a ∨ ns.foldl max a ∈ ns
  | [], a => .inl rfl
  | n :: ns, a => by
    rw [List.foldl_cons]
    rcases foldl_max_mem ns (max a n) with h | h
    · rw [h]
      by_cases z : a ≤ n
      · right; rw [Int.max_eq_right z]; exact List.mem_cons_self
      · left; exact Int.max_eq_left (by omega)
    · exact .inr (List.mem_cons_of_mem _ h)
theorem foldl_max_le : ∀ (ns : List Int) (a y : Int), y ∈ ns → y ≤ ns.foldl max a
  | n :: ns, a, y, h => by
    rw [List.foldl_cons]
    rcases List.mem_cons.mp h with rfl | h
    · exact Int.le_trans (Int.le_max_right a y) (foldl_max_ge ns _)
    · exact foldl_max_le ns _ y h
theorem topI_mem {ns : List Int} (h : 0 < ns.length) : topI ns ∈ ns := by
  cases ns with
  | nil => simp at h
  | cons n ns =>
    rcases foldl_max_mem ns n with z | z
    · show ns.foldl max n ∈ _
      rw [z]; exact List.mem_cons_self
    · exact List.mem_cons_of_mem _ z
theorem le_topI {ns : List Int} {y : Int} (h : y ∈ ns) : y ≤ topI ns := by
  cases ns with
  | nil => cases h
  | cons n ns =>
    rcases List.mem_cons.mp h with rfl | h
    · exact foldl_max_ge ns _
    · exact foldl_max_le ns _ _ h
theorem intKeys_rpk {K : PySem.W.Frag} {F : Hp} : ∀ {kvs : List (Key × V)} {ds : List (PyData × PyData)} {ns : List Int}, RpK K F kvs ds → intKeys ds = some ns → kvs.map Prod.fst = ns.map Sum.inl
  | _, _, _, .nil, h => by cases h; rfl
  | _, _, _, @RpK.cons _ _ k v kvs d ds r t, h => by
    cases k with
    | inl i =>
      have h : (intKeys ds).map (i :: ·) = _ := h
      cases q : intKeys ds with
      | none => rw [q] at h; cases h
      | some ms =>
        rw [q] at h; cases h
        rw [List.map_cons, List.map_cons, intKeys_rpk t q]
    | inr x => cases h
def pMaxK : List PyData → Option Op
  | [.dict ds] => if nestD ds = true then none else match intKeys ds with
    | some (n :: ns) => some (.v (.int (topI (n :: ns))))
    | _ => none
  | _ => none
theorem pn_maxK {K : PySem.W.Frag} : PN K (rMaxK K) pMaxK := by
  intro F H xs ds o Q le rs ho q
  unfold pMaxK at ho
  split at ho
  · split at ho
    · cases ho
    rename_i nd
    split at ho
    · rename_i n ns hk
      cases ho
      obtain ⟨v, rfl, r0⟩ := rds1 rs
      obtain ⟨a, kvs, rfl, h1, r1⟩ := r0.flat (by simpa using nd)
      refine ⟨a, kvs, n :: ns, rfl, h1, intKeys_rpk r1 hk, by simp, fun m hm hy => ?_⟩
      have : m = topI (n :: ns) := Int.le_antisymm (le_topI hm) (hy _ (topI_mem (by simp)))
      subst this
      exact gives_v le (.int _) q
    · cases ho
  · cases ho
/-! ## list(range(n)) -/
def pLRg : PyData → Option Op
  | .int n => if 0 ≤ n ∧ n ≤ 1000000 then some (.fr (.list (rng 0 n.toNat))) else none
  | _ => none
def rLRg : V → Hp → VK → Prop := fun x H Q => ∃ n, x = .int n ∧ RgOk 0 n ∧ ∀ q, H q = none → Q (.ref q) (upd H q (.lst (rgV 0 n)))
theorem rgV_rp {K : PySem.W.Frag} {F : Hp} (n : Nat) : RpL K F (rgV 0 (n : Int)) (rng 0 n) := by
  unfold rgV rng
  have : ((n : Int) - 0).toNat = n := by omega
  rw [this]
  induction List.range n with
  | nil => exact .nil
  | cons i is ih => exact .cons (.int _) ih
theorem p1_lrg {K : PySem.W.Frag} : P1 K rLRg pLRg := by
  intro F H x d o Q le rx ho q
  unfold pLRg at ho
  split at ho
  · rename_i n
    split at ho
    · rename_i hn
      cases ho
      rw [rd1_int rx]
      obtain ⟨m, rfl⟩ : ∃ m : Nat, n = m := ⟨n.toNat, by omega⟩
      exact ⟨_, rfl, RgOk.of_le (Int.le_refl 0) (by omega) (by omega) (by omega), fun p hp => gives_lst le (rgV_rp m) hp q⟩
    · cases ho
  · cases ho
section
variable {X : Cx} {W : XW} {a : Expr} {p p2 pos pos2 : Pos} {f : En → Res Op}
theorem de_listRg (hc : X.calm = true) (hg : Gl X "list") (hm : X.mg "list" = none) (hg2 : Gl X "range") (hm2 : X.mg "range" = none) (ha : DE X W a f) (na : starEach [a] X.env = (false, eval a X.env) :: starEach [] X.env := by rfl)
    (na2 : starEach [.Call (.Name "range" p) [a] [] pos] X.env = (false, eval (.Call (.Name "range" p) [a] [] pos) X.env) :: starEach [] X.env := by rfl) : DE X W (.Call (.Name "list" p2) [.Call (.Name "range" p) [a] [] pos] [] pos2) (sP1 pLRg f) :=
  de_1 p1_lrg (fun ta pa => pe_listRg hc hg hm (prg_1 hg2 hm2 pa na) na2) ha
end
end Py
end L2

namespace L2
namespace Py
open PySem PySem.Spec PyProof.Rows
/-! ## for x in reversed(list) -/
def sItrR (f : En → Res Op) : En → Res (List PyData × List Op) := bnd (sItr f) fun p ρ => .ok (p.1.reverse, p.2) ρ
theorem itok_rev {K : PySem.W.Frag} {F H : Hp} {a : Addr} {xs : List V} {ds : List PyData} {A : Addr → Prop} (h : SqL K F a xs ∨ (H a = some (.lst xs) ∧ A a)) (r : RpL K F xs ds) : ItOk K A F H (Itv K a xs.length) ds.reverse := ⟨fun F2 H2 s1 s2 k => by
  have hq : SqL K H2 a xs := by
    rcases h with h | ⟨h, ha⟩
    · exact same_sqL (s1.trans s2) h
    · exact .inl (.inl (k a _ ha h))
  have hlen := r.length
  refine ⟨by show xs.length ≤ ds.reverse.length; rw [List.length_reverse, hlen]; exact Nat.le_refl _, fun i d hd => ?_⟩
  have hi : i < ds.length := by have := (List.getElem?_eq_some_iff.mp hd).1; rwa [List.length_reverse] at this
  rw [List.getElem?_reverse hi] at hd
  obtain ⟨v, hv, rv⟩ := r.get hd
  have hv' : xs[xs.length - 1 - i]? = some v := by rw [hlen]; exact hv
  refine ⟨⟨by omega, xs, v, hq, hv'⟩, fun x H3 ⟨e, y⟩ => ?_⟩
  subst e
  have e := y xs hq
  rw [hv'] at e
  cases e
  exact ⟨F2, .refl, s2, rv.mono s1⟩⟩
theorem itok_revT {K : PySem.W.Frag} {F H : Hp} {a : Addr} {xs : List V} {ds : List PyData} {A : Addr → Prop} (h : SqT K F a xs) (r : RpL K F xs ds) : ItOk K A F H (RT.ItvT K a xs.length) ds.reverse := ⟨fun F2 H2 s1 s2 k => by
  have hq : SqT K H2 a xs := same_sqT (s1.trans s2) h
  have hlen := r.length
  refine ⟨by show xs.length ≤ ds.reverse.length; rw [List.length_reverse, hlen]; exact Nat.le_refl _, fun i d hd => ?_⟩
  have hi : i < ds.length := by have := (List.getElem?_eq_some_iff.mp hd).1; rwa [List.length_reverse] at this
  rw [List.getElem?_reverse hi] at hd
  obtain ⟨v, hv, rv⟩ := r.get hd
  have hv' : xs[xs.length - 1 - i]? = some v := by rw [hlen]; exact hv
  refine ⟨⟨by omega, xs, v, hq, hv'⟩, fun x H3 ⟨e, y⟩ => ?_⟩
  subst e
  have e := y xs hq
  rw [hv'] at e
  cases e
  exact ⟨F2, .refl, s2, rv.mono s1⟩⟩
section
variable {X : Cx} {W : XW} {tg l : Expr} {f : En → Res Op} {p pos : Pos}
theorem di_revL (hg : Gl X "reversed") (hm : X.mg "reversed" = none) (ha : DE X W l f) (hs : starEach [l] X.env = (false, eval l X.env) :: starEach [] X.env := by rfl) : DI X W tg (.Call (.Name "reversed" p) [l] [] pos) (sItrR f) := by
  obtain ⟨ta, pa, sa⟩ := ha.ex
  refine ⟨_, RT.pi_revA hg hm pa hs, fun σ F H ρ R E h => ?_⟩
  unfold sItrR sItr bnd at h
  cases e : f ρ with
  | bad => simp only [e] at h; exact h.elim
  | exc c ρ1 => simp only [e] at h; exact sa σ F H ρ _ E (by rw [e]; exact h)
  | ok o ρ1 =>
    simp only [e] at h
    refine sa σ F H ρ _ E (by
      rw [e]
      intro F1 H1 g1 v r
      cases o with
      | v d =>
        cases d with
        | list ds =>
          cases r with
          | lst h1 r1 => exact ⟨_, _, rfl, .inl ⟨same_sqL g1.env.le h1, h F1 H1 g1 (Itv X.K _ _) (fun _ => False) [] trivial (fun _ m => nomatch m) (fun _ z => z.elim) (itok_rev (.inl h1) r1)⟩⟩
        | tuple ds =>
          cases r with
          | tup h1 r1 => exact ⟨_, _, rfl, .inr ⟨same_sqT g1.env.le h1.sq, h F1 H1 g1 (RT.ItvT X.K _ _) (fun _ => False) [] trivial (fun _ m => nomatch m) (fun _ z => z.elim) (itok_revT h1.sq r1)⟩⟩
        | _ => exact h.elim
      | fr d =>
        cases d with
        | list ds =>
          obtain ⟨a, rfl, n, xs, hH, hF, rx⟩ := r
          refine ⟨a, xs, rfl, .inl ⟨.inl (.inl hH), h F1 H1 g1 (Itv X.K a xs.length) (fun b => b = a) [.ref a] ⟨⟨a, rfl, n, xs, hH, hF, rx⟩, trivial⟩ (fun o m i z => ?_) (fun b z => ⟨0, _, by rw [z]; rfl, rfl, fun d z => by cases z⟩) (itok_rev (.inr ⟨hH, rfl⟩) rx)⟩⟩
          rw [List.mem_singleton.mp m] at z; cases z
        | _ => exact h.elim
      | pl i =>
        have r : σ[i]? = some (some v) := r
        unfold itO at h
        cases q : ρ1[i]? with
        | none => simp only [q] at h; exact h.elim
        | some s =>
          simp only [q] at h
          obtain ⟨w, e1, e2⟩ := g1.env.sl i s q
          rw [r] at e1; cases e1
          have fin : ∀ (a : Addr) (ds : List PyData), v = .ref a → s.plc = true → Ob X.K F1 H1 a (.list ds) → Post X.K W σ ρ F H (Res.ok (ds.reverse, [Op.pl i]) ρ1) (fun p ρ' F' H' => ∀ J A vs, OdsA X.K H F' H' σ vs p.2 → (∀ o ∈ p.2, ∀ i, o = .pl i → ∃ s, ρ'[i]? = some s ∧ s.plc = true) → (∀ a, A a → ∃ (k : Nat) (o : Op), vs[k]? = some (V.ref a) ∧ p.2[k]? = some o ∧ ∀ d, o ≠ .v d) → ItOk X.K A F' H' J p.1 → R J H') →
              ∃ (a : Addr) (xs : List V), v = .ref a ∧ ((SqL X.K H1 a xs ∧ R (Itv X.K a xs.length) H1) ∨ (SqT X.K H1 a xs ∧ R (RT.ItvT X.K a xs.length) H1)) := by
            rintro a ds rfl hp ⟨xs, hH, hF, rx⟩ h
            refine ⟨a, xs, rfl, .inl ⟨.inl (.inl hH), h F1 H1 g1 (Itv X.K a xs.length) (fun b => b = a) [.ref a] ⟨r, trivial⟩ (fun o m j z => ?_) (fun b z => ⟨0, _, by rw [z]; rfl, rfl, fun d z => by cases z⟩) (itok_rev (.inr ⟨hH, rfl⟩) rx)⟩⟩
            rw [List.mem_singleton.mp m] at z; cases z
            exact ⟨s, q, hp⟩
          cases s with
          | no => exact h.elim
          | val d => exact h.elim
          | fix d => exact h.elim
          | own d =>
            cases d with
            | list ds => obtain ⟨a, e3, ob⟩ := e2; cases e3; exact fin a ds rfl rfl ob h
            | _ => exact h.elim
          | inn d =>
            cases d with
            | list ds => obtain ⟨a, e3, ob⟩ := e2; cases e3; exact fin a ds rfl rfl ob h
            | _ => exact h.elim
          | bor d =>
            cases d with
            | list ds => obtain ⟨a, e3, ob⟩ := e2; cases e3; exact fin a ds rfl rfl ob h
            | _ => exact h.elim)
end
/-! ## sorted(d.values()), the keys numbers or texts -/
theorem vals_eachK {K : PySem.W.Frag} {F : Hp} : ∀ {kvs : List (Key × V)} {ds : List (PyData × PyData)} {vs : List (Key × Value)}, RpK K F kvs ds → KV kvs vs → PySem.W.EachIs (fun (u : Value) (d : PyData) => ∃ y, RelV y u ∧ Rp K F y d) (vs.map (·.2)) (ds.map (·.2))
  | _, _, _, .nil, h => by cases h; exact .nil
  | _, _, _, .cons h2 t, h => by
    cases h with
    | cons r rs => exact .cons ⟨_, r.2, h2⟩ (vals_eachK t rs)
def pValsK : PyData → Option Op
  | .dict ds => if nestD ds = true then none else if okS (ds.map (·.2)) = true then some (.fr (.list (sortD (ds.map (·.2))))) else none
  | _ => none
def rValsK (K : PySem.W.Frag) : V → Hp → VK → Prop := fun x H Q => ∃ (F : Hp) (a : Addr) (kvs : List (Key × V)) (ds : List (PyData × PyData)), Same F H ∧ x = .ref a ∧ Rd H a (.dK kvs) ∧ RpK K F kvs ds ∧ okS (ds.map (·.2)) = true ∧
  ∀ ys p, ys.length = ds.length → RpL K F ys (sortD (ds.map (·.2))) → H p = none → Q (.ref p) (upd H p (.lst ys))
theorem p1_valsK {K : PySem.W.Frag} : P1 K (rValsK K) pValsK := by
  intro F H x d o Q le rx ho q
  unfold pValsK at ho
  split at ho
  · split at ho
    · cases ho
    rename_i ds nd
    split at ho
    · rename_i ok
      cases ho
      obtain ⟨a, kvs, rfl, h1, r1⟩ := rx.flat (by simpa using nd)
      exact ⟨F, a, kvs, ds, le, rfl, h1, r1, ok, fun ys p hl r hp => gives_lst le r hp q⟩
    · cases ho
  · cases ho
section
variable {X : Cx} {o : Expr} {p pos apos mpos : Pos} {td : TE}
open PySem.W in
theorem pe_sortValsK (hc : X.calm = true) (hu : X.A.units + 64 < cLine) (hg : Gl X "sorted") (hm : X.mg "sorted" = none) (hd : PE X o td) (hbase : attributeBase o "values" X.env (eval o X.env) = eval o X.env := by rfl) (hline : (apos.endLine == mpos.line) = true := by rfl)
    (hse : starEach [Expr.Call (.Attribute o "values" apos) [] [] mpos] X.env = [(false, eval (Expr.Call (.Attribute o "values" apos) [] [] mpos) X.env)] := by rfl) :
    PE X (.Call (.Name "sorted" p) [.Call (.Attribute o "values" apos) [] [] mpos] [] pos) (tUn (rValsK X.K) td) := by
  refine ⟨fun pins s σ H Q I h => ?_⟩
  refine wpAny_Call_Name_kw (ld_blt I hg hm (u := .builtin "sorted") (by first | rfl | decide +kernel) ?_ (by first | decide +kernel | decide) (by first | decide +kernel | decide))
  rw [hse]
  refine PySem.callWith_builtin1 (wpAny_Call_method0_late hbase hline (thn (hd.run pins s σ H _ I h) fun v s1 ⟨x, H1, I1, r1, Fa, a, kvs, ds, le, ex, hn, rr, ok, q⟩ => ?_))
  subst ex
  obtain rfl : v = Value.ref a := r1
  obtain ⟨hz, hsys, vs, kt, dd⟩ := dk_rd I1.hok hn
  obtain ⟨ob, es, ep, ho, ex, hdat, hko, hpr, hnd⟩ := dd
  refine ⟨"dict", "dict.values", PySem.F.plainAttrs_dict, PySem.F.slot_dict_values, PySem.F.type_dict_values, ⟨ob, ho, ex.1⟩, fun b e => ?_, Calls.callWith_builtin rfl (PySem.evalArgs_none ?_)⟩
  · cases e
    exact ⟨ob, ho, ex.2.1⟩
  refine call_meetsIn PySem.F.slot_dict_values ⟨ob, ho, ex.1⟩ PySem.F.entry_dict_values (PySem.F.args_dict_values_1 _) (meets_dict_values_raw a hsys) ⟨⟨es, ep, ob, ho, ex, hdat⟩, ?_⟩
  have k1 : ∀ b u, s1.heap.get? b = some u → (s1.heap.push { cls := .type "dict_values", data := .fields #[.ref a] }).get? b = some u := fun b u e => Heap.get?_push_of_some _ e
  have I2 : Inv X pins σ H1 { s1 with heap := s1.heap.push { cls := .type "dict_values", data := .fields #[.ref a] } } := I1.kept (t' := s1.toks) k1
  obtain ⟨k1', k2', k3'⟩ := okS_iff ok
  have hvs : vs.length = ds.length := by rw [← kt.length, rr.length]
  have hel : es.size = ds.length := by
    have := hpr.length
    rw [Array.length_toList] at this
    rw [this, hvs]
  have hvals : es.toList.map (·.val) = vs.map (·.2) := by
    refine List.ext_getElem? fun i => ?_
    rw [List.getElem?_map, List.getElem?_map]
    cases q1 : es.toList[i]? with
    | none =>
      have : es.toList.length ≤ i := List.getElem?_eq_none_iff.mp q1
      have h2 : vs[i]? = none := List.getElem?_eq_none (by rw [hvs, ← hel, ← Array.length_toList]; exact this)
      rw [h2]; rfl
    | some e =>
      have hi : i < es.toList.length := (List.getElem?_eq_some_iff.mp q1).1
      have hi2 : i < vs.length := by rw [hvs, ← hel, ← Array.length_toList]; exact hi
      obtain ⟨_, h2⟩ := hpr.get? (e := e) q1 (k := vs[i].1) (v := vs[i].2) (List.getElem?_eq_getElem hi2)
      rw [List.getElem?_eq_getElem hi2, Option.map_some, Option.map_some, h2]
  refine sorted_src (s := { s1 with heap := s1.heap.push { cls := .type "dict_values", data := .fields #[.ref a] } }) (bs := ds.map (·.2)) (enc := id) (R := fun (u : Value) (d : PyData) => ∃ y, RelV y u ∧ Rp X.K Fa y d)
    (KdlSrc.rawValues (d := a) (es := es) (ep := ep) (r := s1.heap.objs.size)) (I.ok.hd hc) ⟨⟨_, Heap.get?_push_size _ rfl, rfl, rfl⟩, ob, k1 _ _ ho, ex, hdat⟩ (by rw [hel, ← rr.length]; exact hz) (fun out hit => ?_) (fun v b ⟨y, rv, rp⟩ => Rp.reads I2 b y v (rp.mono le) rv)
    (by rw [List.map_id]; exact k1') (by rw [List.map_id]; exact k2') (by rw [List.length_map, ← rr.length]; exact hz) (fun b hb => ?_) fun h' tk p out c kk hp hget hlen eo => ?_
  · have e : out.toList = es.toList.map (·.val) := by
      refine List.ext_getElem? fun i => ?_
      rw [List.getElem?_map]
      cases q1 : out[i]? with
      | none =>
        have h1 : ¬ i < out.size := by intro z; rw [Array.getElem?_eq_getElem z] at q1; cases q1
        have h2 : es.toList[i]? = none := List.getElem?_eq_none (by rw [Array.length_toList, ← hit.1]; omega)
        rw [Array.getElem?_toList, q1, h2]; rfl
      | some u =>
        obtain ⟨hi, e⟩ := hit.2 i u q1
        rw [Array.getElem?_toList, q1, Array.getElem?_toList, Array.getElem?_eq_getElem hi, e]; rfl
    rw [e, hvals]
    exact vals_eachK rr kt
  · have := depthAll_mem hb
    show X.A.units + 2 + b.depth < cLine
    omega
  · obtain ⟨zs, h1, h2⟩ := each_back eo
    have hyl : zs.length = ds.length := by rw [h1.length, hlen, List.length_map]
    refine ⟨.ref p, upd H1 p (.lst zs), I2.laid (t' := tk) kk hp ⟨?_, out, c, h1, hget⟩, rfl, q zs p hyl h2 (I2.hok.fresh hp)⟩
    rw [hyl, ← rr.length]; exact hz
theorem de_sortValsK {W : XW} {f : En → Res Op} {k : Nat} (hr : Room k X.A) (hc : X.calm = true) (hg : Gl X "sorted") (hm : X.mg "sorted" = none) (hd : DE X W o f) (hbase : attributeBase o "values" X.env (eval o X.env) = eval o X.env := by rfl) (hline : (apos.endLine == mpos.line) = true := by rfl)
    (hse : starEach [Expr.Call (.Attribute o "values" apos) [] [] mpos] X.env = [(false, eval (Expr.Call (.Attribute o "values" apos) [] [] mpos) X.env)] := by rfl) :
    DE X W (.Call (.Name "sorted" p) [.Call (.Attribute o "values" apos) [] [] mpos] [] pos) (sP1 pValsK f) :=
  de_1 p1_valsK (fun _ pa => pe_sortValsK hc hr.units hg hm pa hbase hline hse) hd
end
end Py
end L2

namespace L2
namespace Py
open PySem PySem.Spec PyProof.Rows
/-! ## d.get(k, x), the keys tuples -/
def NAt (K : PySem.W.Frag) (H : Hp) (a : Addr) : Prop := ∃ (F : Hp) (kvs : List (NestedKey × Addr × V)) (ds : List (PyData × PyData)), Same F H ∧ IsN H a kvs ∧ RpN K F kvs ds
def tDGetN (K : PySem.W.Frag) (td ty tx : TE) : TE := fun σ H Q => td σ H fun x H1 => ∃ a, x = .ref a ∧ NAt K H1 a ∧ ty σ H1 fun y H2 => tx σ H2 fun z H3 =>
  ∃ (F : Hp) (kvs : List (NestedKey × Addr × V)) (ds : List (PyData × PyData)) (kd dz : PyData) (k : NestedKey) (b : Addr), Same F H3 ∧ IsN H3 a kvs ∧ RpN K F kvs ds ∧ y = .ref b ∧ Rp K F (.ref b) kd ∧ keyT kd = some k ∧ Rp K F z dz ∧ ∀ v, Rp K F v ((lookN ds kd).getD dz) → Q v H3
section
variable {X : Cx} {o e f : Expr} {apos cpos : Pos} {td ty tx : TE}
theorem pe_dgetN (hu : X.A.units + 64 < cLine) (ho : PE X o td) (he : PE X e ty) (hf : PE X f tx) (m : M2 X o "get" apos e f cpos) : PE X (.Call (.Attribute o "get" apos) [e, f] [] cpos) (tDGetN X.K td ty tx) := by
  refine ⟨fun pins s σ H Q I h => ?_⟩
  refine wpAny_Call_method m.base m.few m.line PySem.F.plainAttrs_dict PySem.F.slot_dict_get PySem.F.type_dict_get (thn (ho.run pins s σ H _ I h) fun u s1 ⟨x, H1, I1, rx, a, ex, d, q1⟩ => ?_)
  subst ex
  obtain rfl : u = Value.ref a := rx
  obtain ⟨F0, kvs0, ds0, le0, hn0, rr0⟩ := d
  obtain ⟨_, _, ys, _, dd⟩ := nd_heap I1 le0 hn0 rr0
  obtain ⟨ob, es, ep, hob, ex, _⟩ := dd
  refine ⟨⟨ob, hob, ex.1⟩, fun b e => by cases e; exact ⟨ob, hob, ex.2.1⟩, ?_⟩
  rw [m.trees]
  refine Calls.callWith_builtin rfl (Calls.evalArgs_plain (Calls.spliced_cons (thn (he.run pins s1 σ H1 _ I1 q1) fun iv s2 ⟨y, H2, I2, ry, q2⟩ =>
    Calls.spliced_cons (thn (hf.run pins s2 σ H2 _ I2 q2) fun fv s3 ⟨z, H3, I3, rz, F, kvs, ds, kd, dz, k, b, le, hn, rr, ey, rk, hk, rdz, q3⟩ => Calls.spliced_nil ?_))))
  subst ey
  obtain rfl : iv = Value.ref b := ry
  exact n_get2 (by omega) I3 le hn rr rk hk rz rdz fun v u s' I' rv rp => ⟨v, H3, I', rv, q3 v rp⟩
end
def dctN (o : Op) : En → Res Unit := fun ρ => match rd ρ o with
  | some (.dict ds) => if okN ds = true then .ok () ρ else .bad
  | _ => .bad
def pGetN : PyData → PyData → PyData → Option Op
  | .dict ds, k, x => if (keyT k).isSome = true ∧ okN ds = true then some (.v ((lookN ds k).getD x)) else none
  | _, _, _ => none
def sGetN (f0 f1 f2 : En → Res Op) : En → Res Op := bnd f0 fun o0 => bnd (dctN o0) fun _ => bnd f1 fun o1 => bnd f2 fun o2 => bnd (fz o2) fun x => bnd (rdd o0) fun d0 => bnd (rdd o1) fun k => opt (pGetN d0 k x)
section
variable {X : Cx} {W : XW} {pos : Pos} {o a b : Expr} {f0 f1 f2 : En → Res Op}
theorem post_dctN {K : PySem.W.Frag} {W : XW} {β : Type} {σ : St} {ρ : En} {F H H0 : Hp} {v : V} {o : Op} {k : Unit → En → Res β} {Z : β → En → Hp → Hp → Prop} (E : EnvR K F H σ ρ) (r : OdR K H0 F H σ v o) (h : Post K W σ ρ F H (bnd (dctN o) k ρ) Z) : (∃ a, v = .ref a ∧ NAt K H a) ∧ Post K W σ ρ F H (k () ρ) Z := by
  unfold bnd dctN at h
  cases e : rd ρ o with
  | none => simp only [e] at h; exact h.elim
  | some d =>
    cases d with
    | dict ds =>
      simp only [e] at h
      cases ok : okN ds with
      | false => rw [ok, if_neg Bool.false_ne_true] at h; exact h.elim
      | true =>
        rw [ok, if_pos rfl] at h
        obtain ⟨a, kvs, ev, hn, rr⟩ := isN_of (r.rd1 E e) ok
        exact ⟨⟨a, ev, F, kvs, ds, E.le, hn, rr⟩, h⟩
    | _ => simp only [e] at h; exact h.elim
theorem de_getN {k : Nat} {apos : Pos} (hr : Room k X.A) (ho : DE X W o f0) (ha : DE X W a f1) (hb : DE X W b f2)
    (h1 : attributeBase o "get" X.env (eval o X.env) = eval o X.env := by rfl)
    (h2 : ((backTo pos (starEach [a, b] X.env)).all (fun x => !x.1) && (backToKw pos (keywordEach [] X.env)).all (fun x => x.1.isSome)
      && decide (([a, b] : List Expr).length + ([] : List Keyword).length + (if ([] : List Keyword).isEmpty then 0 else 1) < 30)) = true := by rfl)
    (h3 : (apos.endLine == pos.line) = true := by rfl) (h4 : backTo pos (starEach [a, b] X.env) = [(false, eval a X.env), (false, eval b X.env)] := by rfl) : DE X W (.Call (.Attribute o "get" apos) [a, b] [] pos) (sGetN f0 f1 f2) := by
  obtain ⟨t0, p0, s0⟩ := ho.ex
  obtain ⟨t1, p1, s1⟩ := ha.ex
  obtain ⟨t2, p2, s2⟩ := hb.ex
  refine ⟨_, pe_dgetN hr.units p0 p1 p2 ⟨h1, h2, h3, h4⟩, fun σ F H ρ Q E h => s0 σ F H ρ _ E (h.split.imp fun o0 ρ1 F1 H1 _ g1 h1 v0 r0 => ?_)⟩
  obtain ⟨⟨a', rfl, isd⟩, h1⟩ := post_dctN g1.env r0 h1
  refine ⟨a', rfl, isd, s1 σ F1 H1 ρ1 _ g1.env (h1.split.imp fun o1 ρ2 F2 H2 _ g2 h2 v1 r1 => ?_)⟩
  refine s2 σ F2 H2 ρ2 _ g2.env (h2.fst fun o2 ρ3 F3 H3 _ g3 h3 v2 r2 => ?_)
  cases q : fz o2 ρ3 with
  | bad => unfold bnd at h3; simp only [q] at h3; exact h3.elim
  | exc c r => exact absurd q fz_noexc
  | ok x ρ4 =>
    unfold bnd at h3
    simp only [q] at h3
    obtain ⟨F4, g4, rp, sF, _⟩ := fz_ok g2.env g3 r2 q
    have hle := g4.env.le
    have h4 : Post X.K W σ ρ4 F4 H3 (bnd (rdd o0) (fun d0 => bnd (rdd o1) fun k => opt (pGetN d0 k x)) ρ4) (fun o _ F' H' => ∀ v, OdR X.K H F' H' σ v o → Q v H') := h3.at' g4
    obtain ⟨d0, e0, h5⟩ := post_rdd g4.env h4
    obtain ⟨kd, e1, h6⟩ := post_rdd g4.env h5
    obtain ⟨r, e2, gv⟩ := post_opt g4.env (g1.trans (g2.trans g4)).go.evo.dom h6
    have q0 := (r0.go E g1 (g2.trans g4)).rd1 g4.env e0
    have q1 := ((r1.go g1.env g2 g4).early g1.go.evo.dom).rd1 g4.env e1
    unfold pGetN at e2
    split at e2
    · rename_i ds
      split at e2
      · rename_i hh
        cases e2
        obtain ⟨nk, ek⟩ := Option.isSome_iff_exists.mp hh.1
        obtain ⟨a2, kvs, ea, hn, rr⟩ := isN_of q0 hh.2
        cases ea
        obtain ⟨b', rfl, rb⟩ := key_rd q1 ek
        exact ⟨F4, kvs, ds, kd, x, nk, b', hle, hn, rr, rfl, rb, ek, rp, fun v rv => gives_v hle rv gv⟩
      · cases e2
    · cases e2
end
end Py
end L2

namespace L2
namespace Py
open PySem PySem.Spec PyProof.Rows PySem.W
/-! ## sorted(xs) of tuples whose first things are different ints -/
def firstInt (h : Heap) (v : Value) : Option Int := match v with
  | .ref a => (match h.get? a with
    | some o => (match o.data with
      | .seq xs _ => (match xs.toList with
        | .int k _ :: _ => some k
        | _ => none)
      | _ => none)
    | none => none)
  | _ => none
def headI : PyData → Int
  | .tuple (.int k :: _) => k
  | _ => 0
theorem firstInt_of {h : Heap} {v : Value} {k : Int} {r : List PyData} {as : List Addr} (rd : Reads h v (.tuple (.int k :: r)) as) : firstInt h v = some k := by
  cases rd with
  | @tuple l o xs n _ _ h1 h2 h3 h4 =>
    unfold firstInt
    dsimp only
    rw [h1]
    dsimp only
    rw [h3]
    dsimp only
    generalize xs.toList = us at h4
    cases h4 with
    | cons a b => cases a; rfl
theorem same_of {h : Heap} : ∀ {vs : List Value} {ds : List PyData}, EachIs (fun v d => ∃ as, Reads h v d as) vs ds → (∀ d ∈ ds, ∃ k r, d = .tuple (.int k :: r)) → (ds.map headI).Nodup → ∀ v ∈ vs, ∀ v' ∈ vs, firstInt h v = firstInt h v' → v = v'
  | _, _, .nil, _, _, v, m, _, _, _ => nomatch m
  | _, _, .cons (a := u) (b := d) (as := us) (bs := ds) ⟨as, r⟩ t, hf, nd, v, m, v', m', e => by
    rw [List.map_cons, List.nodup_cons] at nd
    obtain ⟨k, r', rfl⟩ := hf d List.mem_cons_self
    have hk := firstInt_of r
    have tail : ∀ x ∈ us, firstInt h x ≠ some k := fun x mx z => by
      obtain ⟨d', md', as', rd'⟩ := t.left x mx
      obtain ⟨k', r2, rfl⟩ := hf d' (List.mem_cons_of_mem _ md')
      rw [firstInt_of rd'] at z
      have : k' = k := Option.some.inj z
      exact nd.1 (List.mem_map.mpr ⟨_, md', this⟩)
    rcases List.mem_cons.mp m with z | m
    · rcases List.mem_cons.mp m' with z' | m'
      · rw [z, z']
      · rw [z, hk] at e; exact absurd e.symm (tail v' m')
    · rcases List.mem_cons.mp m' with z' | m'
      · rw [z', hk] at e; exact absurd e (tail v m)
      · exact same_of t (fun d m => hf d (List.mem_cons_of_mem _ m)) nd.2 v m v' m' e
noncomputable def firstKind (h : Heap) (vs : List Value) : PyProof.Rows.KeyKind where
  α := Int
  blt a b := decide (a < b)
  irrefl a := by simp
  trans a b c h1 h2 := by simp only [decide_eq_true_eq] at *; omega
  negTrans a b c h1 := by simp only [decide_eq_true_eq] at *; omega
  total a b h1 h2 := by simp only [decide_eq_false_iff_not] at *; omega
  keyOf v := open Classical in if v ∈ vs then firstInt h v else none
  dflt := (0 : Int)
section
variable {prog : Program} {w : World} {A : Around} {E : Value → Shared → Prop} {s : Shared}
theorem firstKind_key {h : Heap} {vs : List Value} {v : Value} {a : Int} (e : (firstKind h vs).keyOf v = some a) : v ∈ vs ∧ firstInt h v = some a := by
  have e : (open Classical in if v ∈ vs then firstInt h v else none) = some a := e
  by_cases m : v ∈ vs
  · rw [if_pos m] at e; exact ⟨m, e⟩
  · rw [if_neg m] at e; cases e
theorem sortsAt_first {vs : List Value} {ds : List PyData} (e : EachIs (fun v d => ∃ as, Reads s.heap v d as) vs ds) (hf : ∀ d ∈ ds, ∃ k r, d = .tuple (.int k :: r)) (nd : (ds.map headI).Nodup) (ha : ∀ d ∈ ds, alike d d = true) (hu : ∀ d, d ∈ ds → A.units + d.depth < cLine) : SortsAt prog w A s (firstKind s.heap vs) vs := by
  refine ⟨fun v hv => ?_, tuples' true, ?_, fun h2 E Q hq => ?_⟩
  · obtain ⟨d, md, as, r⟩ := e.left v hv
    obtain ⟨k, r', rfl⟩ := hf d md
    exact ⟨k, by show (open Classical in if v ∈ vs then firstInt s.heap v else none) = some k; rw [if_pos hv]; exact firstInt_of r⟩
  · intro E x y (a : Int) (b : Int) Q hx hy hq
    obtain ⟨mx, fx⟩ := firstKind_key hx
    obtain ⟨my, fy⟩ := firstKind_key hy
    obtain ⟨d, md, as, ra⟩ := e.left x mx
    obtain ⟨d', md', as', rb⟩ := e.left y my
    have hq' : Q (decide ((a : Int) < b)) s := hq
    by_cases hab : (a : Int) = b
    · have exy : x = y := same_of e hf nd x mx y my (by rw [fx, fy, hab])
      subst exy
      obtain ⟨k, r, rfl⟩ := hf d md
      have hdd := ha _ md
      have hroom := hu _ md
      rw [hab, decide_eq_false (Int.lt_irrefl _)] at hq'
      cases ra with
      | @tuple l o xs n _ _ h1 h2 h3 h4 =>
        have n1 : xs.size = (PyData.int k :: r).length := by simpa using SeqAt.ReadsAll.length _ _ _ h4
        refine kat_lt h1 h3 h1 h3 (katLex_alike (.int k :: r) (.int k :: r) 0 _ _ _ _ h4 h4 (by simpa [alike] using hdd) ?_ (fun _ _ x r' t ex => ?_) (by rw [n1]) ?_)
        · rw [PyData.depth] at hroom
          show A.units + min _ _ < cLine
          omega
        · obtain ⟨rfl, rfl⟩ := List.cons.inj ex; nofun
        · rw [lex_irrefl]; exact hq'
    · obtain ⟨k, r, rfl⟩ := hf d md
      obtain ⟨k', r', rfl⟩ := hf d' md'
      have ek : a = k := Option.some.inj (fx.symm.trans (firstInt_of ra))
      have ek' : b = k' := Option.some.inj (fy.symm.trans (firstInt_of rb))
      cases ra with
      | @tuple l o xs n _ _ h1 h2 h3 h4 =>
        cases rb with
        | @tuple l' o' xs' n' _ _ k1 k2 k3 k4 =>
          refine kat_lt h1 h3 k1 k3 ?_
          generalize xs.toList = us at h4
          generalize xs'.toList = us' at k4
          cases h4 with
          | cons p1 p2 =>
            cases k4 with
            | cons q1 q2 =>
              cases p1
              cases q1
              refine kat_cons (wpAny_eqBool_int ?_)
              refine kat_go (fun z => ?_) (fun z => kat_no (oneLt_any_int (by rw [← ek, ← ek']; exact hq')))
              have : k = k' := by simpa using z
              exact absurd (ek.trans (this.trans ek'.symm)) hab
  · obtain ⟨fs, t1, t2, t3⟩ := each_katTups e fun d m => by obtain ⟨k, r, z⟩ := hf d m; exact ⟨_, r, z⟩
    refine kat_kind (T := Value.type "int") t1 (by omega) (fun f hm => ?_) (beq_self_eq_true _) hq
    obtain ⟨x, r, as, m1, m2⟩ := t3 f hm
    obtain ⟨k, r', z⟩ := hf _ m1
    simp only [PyData.tuple.injEq, List.cons.injEq] at z
    rw [z.1] at m2
    exact looks_reads m2
end
def okF (ds : List PyData) : Bool := ds.all (fun d => match d with | .tuple (.int _ :: _) => true | _ => false) && ds.all (fun d => alike d d) && decide (PyData.depthAll ds ≤ 60) && decide ((ds.map headI).Nodup)
theorem okF_iff {ds : List PyData} (h : okF ds = true) : (∀ d ∈ ds, ∃ k r, d = .tuple (.int k :: r)) ∧ (∀ d ∈ ds, alike d d = true) ∧ PyData.depthAll ds ≤ 60 ∧ (ds.map headI).Nodup := by
  unfold okF at h
  simp only [Bool.and_eq_true, List.all_eq_true, decide_eq_true_eq] at h
  obtain ⟨⟨⟨h1, h2⟩, h3⟩, h4⟩ := h
  refine ⟨fun d m => ?_, h2, h3, h4⟩
  have := h1 d m
  split at this
  · exact ⟨_, _, rfl⟩
  · cases this
def sortF (ds : List PyData) : List PyData := ds.mergeSort fun a b => !decide (headI b < headI a)
def rSortF (K : PySem.W.Frag) : List V → Hp → VK → Prop := fun vs H Q => ∃ (F : Hp) (a : Addr) (xs : List V) (ds : List PyData), Same F H ∧ vs = [.ref a] ∧ SqL K H a xs ∧ RpL K F xs ds ∧ okF ds = true ∧ ∀ ys p, ys.length = xs.length → RpL K F ys (sortF ds) → H p = none → Q (.ref p) (upd H p (.lst ys))
theorem cr_sortF {X : Cx} (hu : X.A.units + 64 < cLine) : CallR X (.builtin "sorted") (rSortF X.K) := by
  intro pins s σ H vs us Q I r h
  obtain ⟨F, a, xs, ds, le, rfl, hs, rx, ok, q⟩ := h
  obtain ⟨k1, k2, k3, k4⟩ := okF_iff ok
  obtain ⟨its, rv, hl, hz⟩ := I.list hs
  obtain ⟨u, rfl, ru⟩ := vals1 r
  obtain rfl : u = Value.ref a := ru
  have e1 := each_of rv rx
  have e2 := each_reads I le e1
  have e2' : EachIs (fun v d => ∃ as, Reads (sortingHeap (copyHeap s.heap its) (s.heap.objs.size + 1) its) v d as) its ds := by
    have := e2.mono fun _ _ ⟨as, r⟩ => (⟨as, PyProof.Rows.Reads.keeps (fun _ _ => sorting_copy_old) r⟩ : ∃ as, Reads (sortingHeap (copyHeap s.heap its) (s.heap.objs.size + 1) its) _ _ as)
    exact this
  have S : SortsAt X.prog X.w X.A.in1.in1 { s with heap := sortingHeap (copyHeap s.heap its) (s.heap.objs.size + 1) its } (firstKind (sortingHeap (copyHeap s.heap its) (s.heap.objs.size + 1) its) its) its :=
    sortsAt_first (s := { s with heap := sortingHeap (copyHeap s.heap its) (s.heap.objs.size + 1) its }) e2' k1 k4 k2 fun d hd => by
      have := depthAll_mem hd
      show X.A.units + 2 + d.depth < cLine
      omega
  have hks : EachIs (fun v d => (firstKind (sortingHeap (copyHeap s.heap its) (s.heap.objs.size + 1) its) its).keyOf v = some (headI d)) its ds := by
    have hm : ∀ {vs : List Value} {bs : List PyData}, EachIs (fun v d => ∃ as, Reads (sortingHeap (copyHeap s.heap its) (s.heap.objs.size + 1) its) v d as) vs bs → (∀ v ∈ vs, v ∈ its) → (∀ d ∈ bs, ∃ k r, d = .tuple (.int k :: r)) →
        EachIs (fun v d => (firstKind (sortingHeap (copyHeap s.heap its) (s.heap.objs.size + 1) its) its).keyOf v = some (headI d)) vs bs := by
      intro vs bs e
      induction e with
      | nil => intro _ _; exact .nil
      | @cons v d vs bs hd t ih =>
        intro hv hb
        refine .cons ?_ (ih (fun x m => hv x (List.mem_cons_of_mem _ m)) fun x m => hb x (List.mem_cons_of_mem _ m))
        obtain ⟨as, r⟩ := hd
        obtain ⟨k, r', rfl⟩ := hb d List.mem_cons_self
        show (open Classical in if v ∈ its then firstInt _ v else none) = some k
        rw [if_pos (hv v List.mem_cons_self)]
        exact firstInt_of r
    exact hm e2' (fun _ m => m) k1
  have eo := sortVals_each (κ := firstKind (sortingHeap (copyHeap s.heap its) (s.heap.objs.size + 1) its) its) (rev := false) (ks := its) headI e1 hks
  have hlen : (sortVals (firstKind (sortingHeap (copyHeap s.heap its) (s.heap.objs.size + 1) its) its) false its its).length = ds.length := by
    rw [sortVals_length false rfl]; exact e1.length
  refine sorted_vals hl.isList S (by rw [e1.length, ← rx.length]; exact hz) ?_
  generalize sortVals (firstKind (sortingHeap (copyHeap s.heap its) (s.heap.objs.size + 1) its) its) false its its = out at eo hlen
  have eo : EachIs (fun (u : Value) (d : PyData) => ∃ y, RelV y u ∧ Rp X.K F y d) out (sortF ds) := eo
  obtain ⟨ys, h1, h2⟩ := each_back eo
  obtain ⟨e, he⟩ := sortedAll_at s.heap its out.toArray
  have hyl : ys.length = xs.length := by rw [h1.length, hlen, rx.length]
  refine ⟨.ref (s.heap.objs.size + 1), upd H (s.heap.objs.size + 1) (.lst ys), I.laid (t' := s.toks) (fun _ _ => sortedAll_old) (Nat.le_succ _) ⟨?_, out, e, h1, he⟩, rfl, q ys _ hyl h2 (I.hok.fresh (Nat.le_succ _))⟩
  rw [hyl]; exact hz
def pSortF : List PyData → Option Op
  | [.list ds] => if okF ds = true then some (.fr (.list (sortF ds))) else none
  | _ => none
theorem pn_sortF {K : PySem.W.Frag} : PN K (rSortF K) pSortF := by
  intro F H xs ds o Q le rs ho q
  unfold pSortF at ho
  split at ho
  · split at ho
    · rename_i ds hk
      cases ho
      obtain ⟨v, rfl, a, ys, rfl, h1, r1⟩ := rds1 rs
      exact ⟨F, a, ys, ds, le, rfl, h1, r1, hk, fun zs p hl r hp => gives_lst le r hp q⟩
    · cases ho
  · cases ho
/-- by the data's order where all are alike, else by the first things -/
def pSorted2 : List PyData → Option Op := fun ds => match pSorted ds with
  | some o => some o
  | none => pSortF ds
theorem pn_sorted2 {K : PySem.W.Frag} : PN K (fun xs H Q => rSortD K xs H Q ∨ rSortF K xs H Q) pSorted2 := by
  intro F H xs ds o Q le rs ho q
  unfold pSorted2 at ho
  cases e : pSorted ds with
  | some o' =>
    rw [e] at ho
    cases ho
    exact .inl (pn_sorted F H xs ds o Q le rs e q)
  | none =>
    rw [e] at ho
    exact .inr (pn_sortF F H xs ds o Q le rs ho q)
end Py
end L2

namespace L2
namespace Py
open PySem PySem.Spec PyProof.Rows PySem.W
/-! ## sorted(t), t a tuple -/
section
variable {prog : Program} {w : World} {A : Around} {E : Value → Shared → Prop} {s : Shared} {κ : PyProof.Rows.KeyKind}
theorem collect_tup {l : Addr} {vs : List Value} {Q : List Value → Shared → Prop} (hl : s.heap.IsTuple l vs.toArray)
    (h : Q vs { s with heap := (s.heap.push (seqObj "list" #[] 0)).update s.heap.objs.size (Obj.mapSeq (· ++ vs.toArray)) }) (hsz : vs.length ≤ sizeLine) :
    wpAny (model prog w) A (collect (.ref l)) Q E s := by
  obtain ⟨o, ho, hc, n, hd⟩ := id hl
  unfold collect
  refine wpAny_bind (wpAny_runValue (codeAny_builtin entry_proto_collect' ?_))
  show wpAny _ _ (do again (.builtin "list.__iadd__" ⟨[← newList [], .ref l], []⟩)) _ _ s
  refine wpAny_bind (wpAny_newList (wpAny_pure ⟨Code.quiet_builtin _ (by decide +kernel), codeAny_builtin entry_list_iadd' ?_⟩))
  show wpAny _ _ (Builtin.List.listExtendWith (.ref s.heap.objs.size) (.ref l) (.ref s.heap.objs.size)) _ _ { s with heap := s.heap.push (seqObj "list" #[] 0) }
  unfold Builtin.List.listExtendWith
  have ho' : (s.heap.push (seqObj "list" #[] 0)).get? l = some o := Heap.get?_push_of_some _ ho
  refine wpAny_bind (wpAny_typeOf (T := "tuple") ⟨o, ho', hc⟩ ?_)
  have ht : (Value.type "tuple" == Value.type "tuple") = true := by rfl
  rw [if_pos (by rw [ht]; simp)]
  refine wpAny_bind (listItems_at ho' hd ?_)
  refine wpAny_bind (listItems_at (xs := #[]) (n := 0) (Heap.get?_push_size _ rfl) rfl ?_)
  rw [if_neg (by simp)]
  refine wpAny_bind (listUpdate_at (xs := #[]) (n := 0) (Heap.get?_push_size _ rfl) rfl ?_ (Nat.zero_le _) (by show (#[] ++ vs.toArray).size ≤ sizeLine + 1; simp only [Array.size_append, List.size_toArray, List.length_nil]; omega))
  refine wpAny_pure ?_
  show wpAny (model prog w) A (do
      let o ← load s.heap.objs.size
      match o.data with
      | .seq xs _ => pure xs.toList
      | _ => unsupported "internal:collect") Q E { s with heap := (s.heap.push (seqObj "list" #[] 0)).update s.heap.objs.size (Obj.mapSeq (· ++ vs.toArray)) }
  refine wpAny_bind (wpAny_load (get?_update_seq (Heap.get?_push_size _ rfl) _) ?_)
  show wpAny _ _ (pure ((#[] : Array Value) ++ vs.toArray).toList) Q E _
  rw [show ((#[] : Array Value) ++ vs.toArray).toList = vs by simp]
  exact wpAny_pure h
theorem sorted_valsT {l : Addr} {vs : List Value} {Q : Value → Shared → Prop} (hl : s.heap.IsTuple l vs.toArray) (S : SortsAt prog w A.in1.in1 { s with heap := sortingHeap (copyHeap s.heap vs) (s.heap.objs.size + 1) vs } κ vs) (hL : vs.length ≤ sizeLine)
    (h : Q (.ref (s.heap.objs.size + 1)) { s with heap := sortedAll s.heap vs (sortVals κ false vs vs).toArray }) : wpAny (model prog w) A (call (.builtin "sorted") [.ref l]) Q E s := by
  refine Calls.call_function_entry kind_sorted plain_sorted entry_sorted (args_sorted1 _) ?_
  unfold Builtin.«sorted»
  refine wpAny_bind (m := checkCount "sorted" 1 1 _) (wpAny_pure ?_)
  refine wpAny_bind (collect_tup hl ?_ hL)
  refine wpAny_bind (wpAny_newList ?_ hL)
  have hsz : ((s.heap.push (seqObj "list" #[] 0)).update s.heap.objs.size (Obj.mapSeq (· ++ vs.toArray))).objs.size = s.heap.objs.size + 1 := by
    rw [Heap.size_update, size_push']
  show wpAny _ _ _ _ _ { s with heap := copyHeap s.heap vs }
  rw [hsz]
  refine wpAny_bind (wpAny_holding (wpAny_call_entry_kw slot_list_sort ⟨_, copyHeap_at s.heap vs, rfl⟩ entry_list_sort (list_sort_vals (s := { s with heap := copyHeap s.heap vs }) (copyHeap_at s.heap vs) S hL ⟨_, rfl, ?_⟩) (args_list_sort _)))
  exact wpAny_pure ⟨_, rfl, h⟩
end
def rSortFT (K : PySem.W.Frag) : List V → Hp → VK → Prop := fun vs H Q => ∃ (F : Hp) (a : Addr) (xs : List V) (ds : List PyData), Same F H ∧ vs = [.ref a] ∧ SqT K H a xs ∧ RpL K F xs ds ∧ okF ds = true ∧ ∀ ys p, ys.length = xs.length → RpL K F ys (sortF ds) → H p = none → Q (.ref p) (upd H p (.lst ys))
theorem cr_sortFT {X : Cx} (hu : X.A.units + 64 < cLine) : CallR X (.builtin "sorted") (rSortFT X.K) := by
  intro pins s σ H vs us Q I r h
  obtain ⟨F, a, xs, ds, le, rfl, hs, rx, ok, q⟩ := h
  obtain ⟨k1, k2, k3, k4⟩ := okF_iff ok
  obtain ⟨its, rv, hl, hz⟩ := I.tuple hs
  obtain ⟨u, rfl, ru⟩ := vals1 r
  obtain rfl : u = Value.ref a := ru
  have e1 := each_of rv rx
  have e2 := each_reads I le e1
  have e2' : EachIs (fun v d => ∃ as, Reads (sortingHeap (copyHeap s.heap its) (s.heap.objs.size + 1) its) v d as) its ds := by
    have := e2.mono fun _ _ ⟨as, r⟩ => (⟨as, PyProof.Rows.Reads.keeps (fun _ _ => sorting_copy_old) r⟩ : ∃ as, Reads (sortingHeap (copyHeap s.heap its) (s.heap.objs.size + 1) its) _ _ as)
    exact this
  have S : SortsAt X.prog X.w X.A.in1.in1 { s with heap := sortingHeap (copyHeap s.heap its) (s.heap.objs.size + 1) its } (firstKind (sortingHeap (copyHeap s.heap its) (s.heap.objs.size + 1) its) its) its :=
    sortsAt_first (s := { s with heap := sortingHeap (copyHeap s.heap its) (s.heap.objs.size + 1) its }) e2' k1 k4 k2 fun d hd => by
      have := depthAll_mem hd
      show X.A.units + 2 + d.depth < cLine
      omega
  have hks : EachIs (fun v d => (firstKind (sortingHeap (copyHeap s.heap its) (s.heap.objs.size + 1) its) its).keyOf v = some (headI d)) its ds := by
    have hm : ∀ {vs : List Value} {bs : List PyData}, EachIs (fun v d => ∃ as, Reads (sortingHeap (copyHeap s.heap its) (s.heap.objs.size + 1) its) v d as) vs bs → (∀ v ∈ vs, v ∈ its) → (∀ d ∈ bs, ∃ k r, d = .tuple (.int k :: r)) →
        EachIs (fun v d => (firstKind (sortingHeap (copyHeap s.heap its) (s.heap.objs.size + 1) its) its).keyOf v = some (headI d)) vs bs := by
      intro vs bs e
      induction e with
      | nil => intro _ _; exact .nil
      | @cons v d vs bs hd t ih =>
        intro hv hb
        refine .cons ?_ (ih (fun x m => hv x (List.mem_cons_of_mem _ m)) fun x m => hb x (List.mem_cons_of_mem _ m))
        obtain ⟨as, r⟩ := hd
        obtain ⟨k, r', rfl⟩ := hb d List.mem_cons_self
        show (open Classical in if v ∈ its then firstInt _ v else none) = some k
        rw [if_pos (hv v List.mem_cons_self)]
        exact firstInt_of r
    exact hm e2' (fun _ m => m) k1
  have eo := sortVals_each (κ := firstKind (sortingHeap (copyHeap s.heap its) (s.heap.objs.size + 1) its) its) (rev := false) (ks := its) headI e1 hks
  have hlen : (sortVals (firstKind (sortingHeap (copyHeap s.heap its) (s.heap.objs.size + 1) its) its) false its its).length = ds.length := by
    rw [sortVals_length false rfl]; exact e1.length
  refine sorted_valsT hl S (by rw [e1.length, ← rx.length]; exact hz) ?_
  generalize sortVals (firstKind (sortingHeap (copyHeap s.heap its) (s.heap.objs.size + 1) its) its) false its its = out at eo hlen
  have eo : EachIs (fun (u : Value) (d : PyData) => ∃ y, RelV y u ∧ Rp X.K F y d) out (sortF ds) := eo
  obtain ⟨ys, h1, h2⟩ := each_back eo
  obtain ⟨e, he⟩ := sortedAll_at s.heap its out.toArray
  have hyl : ys.length = xs.length := by rw [h1.length, hlen, rx.length]
  refine ⟨.ref (s.heap.objs.size + 1), upd H (s.heap.objs.size + 1) (.lst ys), I.laid (t' := s.toks) (fun _ _ => sortedAll_old) (Nat.le_succ _) ⟨?_, out, e, h1, he⟩, rfl, q ys _ hyl h2 (I.hok.fresh (Nat.le_succ _))⟩
  rw [hyl]; exact hz
def pSortFT : List PyData → Option Op
  | [.tuple ds] => if okF ds = true then some (.fr (.list (sortF ds))) else none
  | _ => none
theorem pn_sortFT {K : PySem.W.Frag} : PN K (rSortFT K) pSortFT := by
  intro F H xs ds o Q le rs ho q
  unfold pSortFT at ho
  split at ho
  · split at ho
    · rename_i ds hk
      cases ho
      obtain ⟨v, rfl, a, ys, rfl, h1, r1⟩ := rds1 rs
      exact ⟨F, a, ys, ds, le, rfl, same_sqT le h1.sq, r1, hk, fun zs p hl r hp => gives_lst le r hp q⟩
    · cases ho
  · cases ho
def rSortDT (K : PySem.W.Frag) : List V → Hp → VK → Prop := fun vs H Q => ∃ (F : Hp) (a : Addr) (xs : List V) (ds : List PyData), Same F H ∧ vs = [.ref a] ∧ SqT K H a xs ∧ RpL K F xs ds ∧ okS ds = true ∧ ∀ ys p, ys.length = xs.length → RpL K F ys (sortD ds) → H p = none → Q (.ref p) (upd H p (.lst ys))
theorem cr_sortDT {X : Cx} (hu : X.A.units + 64 < cLine) : CallR X (.builtin "sorted") (rSortDT X.K) := by
  intro pins s σ H vs us Q I r h
  obtain ⟨F, a, xs, ds, le, rfl, hs, rx, ok, q⟩ := h
  obtain ⟨k1, k2, k3⟩ := okS_iff ok
  obtain ⟨its, rv, hl, hz⟩ := I.tuple hs
  obtain ⟨u, rfl, ru⟩ := vals1 r
  obtain rfl : u = Value.ref a := ru
  have e1 := each_of rv rx
  have e2 := each_reads I le e1
  have e2' : EachIs (fun v d => ∃ as, Reads (sortingHeap (copyHeap s.heap its) (s.heap.objs.size + 1) its) v d as) its ds := by
    have := e2.mono fun _ _ ⟨as, r⟩ => (⟨as, PyProof.Rows.Reads.keeps (fun _ _ => sorting_copy_old) r⟩ : ∃ as, Reads (sortingHeap (copyHeap s.heap its) (s.heap.objs.size + 1) its) _ _ as)
    exact this
  have S : SortsAt X.prog X.w X.A.in1.in1 { s with heap := sortingHeap (copyHeap s.heap its) (s.heap.objs.size + 1) its } (dataKind (sortingHeap (copyHeap s.heap its) (s.heap.objs.size + 1) its) ds) its :=
    SortsAt.data (s := { s with heap := sortingHeap (copyHeap s.heap its) (s.heap.objs.size + 1) its }) e2' k1 k2 fun d hd => by
      have := depthAll_mem hd
      show X.A.units + 2 + d.depth < cLine
      omega
  have eo := sortVals_data (enc := id) (bs := ds) (h' := sortingHeap (copyHeap s.heap its) (s.heap.objs.size + 1) its) false e1 e2' (by rw [List.map_id]; exact k1)
  rw [List.map_id] at eo
  have hlen : (sortVals (dataKind (sortingHeap (copyHeap s.heap its) (s.heap.objs.size + 1) its) ds) false its its).length = ds.length := by
    rw [sortVals_length false rfl]; exact e1.length
  refine sorted_valsT hl S (by rw [e1.length, ← rx.length]; exact hz) ?_
  generalize sortVals (dataKind (sortingHeap (copyHeap s.heap its) (s.heap.objs.size + 1) its) ds) false its its = out at eo hlen
  obtain ⟨ys, h1, h2⟩ := each_back eo
  obtain ⟨e, he⟩ := sortedAll_at s.heap its out.toArray
  have hyl : ys.length = xs.length := by rw [h1.length, hlen, rx.length]
  refine ⟨.ref (s.heap.objs.size + 1), upd H (s.heap.objs.size + 1) (.lst ys), I.laid (t' := s.toks) (fun _ _ => sortedAll_old) (Nat.le_succ _) ⟨?_, out, e, h1, he⟩, rfl, q ys _ hyl h2 (I.hok.fresh (Nat.le_succ _))⟩
  rw [hyl]; exact hz
def pSortDT : List PyData → Option Op
  | [.tuple ds] => if okS ds = true then some (.fr (.list (sortD ds))) else none
  | _ => none
theorem pn_sortDT {K : PySem.W.Frag} : PN K (rSortDT K) pSortDT := by
  intro F H xs ds o Q le rs ho q
  unfold pSortDT at ho
  split at ho
  · split at ho
    · rename_i ds hk
      cases ho
      obtain ⟨v, rfl, a, ys, rfl, h1, r1⟩ := rds1 rs
      exact ⟨F, a, ys, ds, le, rfl, same_sqT le h1.sq, r1, hk, fun zs p hl r hp => gives_lst le r hp q⟩
    · cases ho
  · cases ho
/-- sorted(x), x a list or a tuple, of alike data or of tuples told by their first ints -/
def pSort4 : List PyData → Option Op := fun ds => match pSorted ds with
  | some o => some o
  | none => (match pSortF ds with
    | some o => some o
    | none => (match pSortDT ds with
      | some o => some o
      | none => pSortFT ds))
theorem pn_sort4 {K : PySem.W.Frag} : PN K (fun xs H Q => rSortD K xs H Q ∨ rSortF K xs H Q ∨ rSortDT K xs H Q ∨ rSortFT K xs H Q) pSort4 := by
  intro F H xs ds o Q le rs ho q
  unfold pSort4 at ho
  cases e : pSorted ds with
  | some o' => rw [e] at ho; cases ho; exact .inl (pn_sorted F H xs ds o Q le rs e q)
  | none =>
    rw [e] at ho
    dsimp only at ho
    cases e1 : pSortF ds with
    | some o' => rw [e1] at ho; cases ho; exact .inr (.inl (pn_sortF F H xs ds o Q le rs e1 q))
    | none =>
      rw [e1] at ho
      dsimp only at ho
      cases e2 : pSortDT ds with
      | some o' => rw [e2] at ho; cases ho; exact .inr (.inr (.inl (pn_sortDT F H xs ds o Q le rs e2 q)))
      | none =>
        rw [e2] at ho
        exact .inr (.inr (.inr (pn_sortFT F H xs ds o Q le rs ho q)))
theorem cr_sort4 {X : Cx} (hu : X.A.units + 64 < cLine) : CallR X (.builtin "sorted") (fun xs H Q => rSortD X.K xs H Q ∨ rSortF X.K xs H Q ∨ rSortDT X.K xs H Q ∨ rSortFT X.K xs H Q) := CallR.or (cr_sortD hu) (CallR.or (cr_sortF hu) (CallR.or (cr_sortDT hu) (cr_sortFT hu)))
end Py
end L2

/-! ## sorted(d.items()), dict(t) of a tuple -/
namespace L2
namespace Py
open PySem PySem.Spec PyProof.Rows
abbrev NewT := Addr × Obj × List V
def putF : Hp → List NewT → Hp
  | H, [] => H
  | H, e :: L => putF (upd H e.1 (.frz e.2.1 (.tup e.2.2))) L
theorem putF_off {b : Addr} : ∀ (L : List NewT) (H : Hp), b ∉ L.map (·.1) → putF H L b = H b
  | [], _, _ => rfl
  | e :: L, H, h => by
    show putF (upd H e.1 _) L b = H b
    rw [putF_off L _ (fun z => h (List.mem_cons_of_mem _ z)), upd_ne (fun z => h (by rw [z]; exact List.mem_cons_self))]
theorem putF_at {e : NewT} : ∀ (L : List NewT) (H : Hp), (L.map (·.1)).Nodup → e ∈ L → putF H L e.1 = some (.frz e.2.1 (.tup e.2.2))
  | e' :: L, H, hn, h => by
    rw [List.map_cons, List.nodup_cons] at hn
    show putF (upd H e'.1 _) L e.1 = _
    rcases List.mem_cons.mp h with z | z
    · rw [z, putF_off L _ hn.1, upd_same]
    · exact putF_at L _ hn.2 z
theorem putF_evo {F H : Hp} {L : List NewT} (le : Same F H) (hn : (L.map (·.1)).Nodup) (new : ∀ e ∈ L, H e.1 = none) : Evo (fun b => H b = none) F H (putF F L) (putF H L) ∧ Same (putF F L) (putF H L) := by
  have off : ∀ b o, H b = some o → b ∉ L.map (·.1) := fun b o q z => by
    obtain ⟨e, m, rfl⟩ := List.mem_map.mp z
    rw [new e m] at q; cases q
  refine ⟨⟨fun b o q => ?_, fun b o q n => ?_, fun b o q n => ?_, fun b o q => ?_⟩, fun b o q => ?_⟩
  · rw [putF_off L F (off b o (le _ _ q))]; exact q
  · rw [putF_off L H (off b o q)]; exact q
  · rw [putF_off L F (off b o q)]
  · rw [putF_off L H (off b o q)]; exact ⟨o, q⟩
  · by_cases hb : b ∈ L.map (·.1)
    · obtain ⟨e, m, rfl⟩ := List.mem_map.mp hb
      rw [putF_at L F hn m] at q
      rw [putF_at L H hn m]; exact q
    · rw [putF_off L F hb] at q
      rw [putF_off L H hb]; exact le _ _ q
theorem takeF {X : Cx} {pins : List (Addr × Obj)} {σ : St} {H0 : Hp} {s : Shared} {h' : Heap} {tk : Nat} (I0 : Inv X pins σ H0 s) : ∀ (L : List NewT) (H1 : Hp), Inv X pins σ H1 { s with heap := h', toks := tk } → (L.map (·.1)).Nodup →
    (∀ e ∈ L, s.heap.objs.size ≤ e.1 ∧ H1 e.1 = none ∧ ∀ H2, ObjOk X.prog X.w H2 h' e.1 (.frz e.2.1 (.tup e.2.2))) → Inv X pins σ (putF H1 L) { s with heap := h', toks := tk }
  | [], H1, I1, _, _ => I1
  | e :: L, H1, I1, hn, h => by
    obtain ⟨hb, hnone, ok⟩ := h e (List.mem_cons_self ..)
    rw [List.map_cons, List.nodup_cons] at hn
    refine takeF I0 L _ (I1.take (h' := h') (t' := tk) (fun b ob _ e => e) (I0.fpOk hb hnone) (ok _)) hn.2 fun c hc => ?_
    obtain ⟨c1, c2, c3⟩ := h c (List.mem_cons_of_mem _ hc)
    exact ⟨c1, by rw [upd_ne (fun z => hn.1 (by rw [← z]; exact List.mem_map.mpr ⟨c, hc, rfl⟩))]; exact c2, c3⟩
def pairD (p : PyData × PyData) : PyData := .tuple [p.1, p.2]
theorem rp_key {K : PySem.W.Frag} {F : Hp} : ∀ k : Key, Rp K F (kV k) (keyD k)
  | .inl i => .int i
  | .inr x => .str x
theorem items_each {K : PySem.W.Frag} {F G : Hp} (s : Same F G) : ∀ {kvs : List (Key × V)} {ds : List (PyData × PyData)} {as : List Addr}, RpK K F kvs ds → as.length = kvs.length →
    (∀ (j : Nat) (a : Addr) (kv : Key × V), as[j]? = some a → kvs[j]? = some kv → ∃ o : Obj, G a = some (.frz o (.tup [kV kv.1, kv.2])) ∧ o.dict = none) →
    PySem.W.EachIs (fun (u : Value) (d : PyData) => ∃ y, RelV y u ∧ Rp K G y d) (as.map Value.ref) (ds.map pairD)
  | _, _, [], .nil, _, _ => .nil
  | _, _, _ :: _, .nil, h, _ => by cases h
  | _, _, [], .cons _ _, h, _ => by cases h
  | _, _, a :: as, @RpK.cons _ _ k v kvs d ds r t, hl, h => by
    obtain ⟨o, e, hd⟩ := h 0 a (k, v) rfl rfl
    exact .cons ⟨.ref a, rfl, .tup (sqP_frz e hd) (.cons (rp_key k) (.cons (r.mono s) .nil))⟩ (items_each s t (by simpa using hl) fun j a kv e1 e2 => h (j + 1) a kv (by simpa using e1) (by simpa using e2))
def pItemsK : PyData → Option Op
  | .dict ds => if nestD ds = true then none else if okS (ds.map pairD) = true then some (.fr (.list (sortD (ds.map pairD)))) else none
  | _ => none
def rItemsK (K : PySem.W.Frag) : V → Hp → VK → Prop := fun x H Q => ∃ (F : Hp) (a : Addr) (kvs : List (Key × V)) (ds : List (PyData × PyData)), Same F H ∧ x = .ref a ∧ Rd H a (.dK kvs) ∧ RpK K F kvs ds ∧ okS (ds.map pairD) = true ∧
  ∀ (F' H' : Hp) (ys : List V) (p : Addr), Evo (fun b => H b = none) F H F' H' → Same F' H' → ys.length = ds.length → RpL K F' ys (sortD (ds.map pairD)) → H p = none → H' p = none → Q (.ref p) (upd H' p (.lst ys))
theorem p1_itemsK {K : PySem.W.Frag} : P1 K (rItemsK K) pItemsK := by
  intro F H x d o Q le rx ho q
  unfold pItemsK at ho
  split at ho
  · split at ho
    · cases ho
    rename_i ds nd
    split at ho
    · rename_i ok
      cases ho
      obtain ⟨a, kvs, rfl, h1, r1⟩ := rx.flat (by simpa using nd)
      refine ⟨F, a, kvs, ds, le, rfl, h1, r1, ok, fun F' H' ys p ev le' hl r hp hp' => ?_⟩
      have hF : F' p = none := le'.free hp'
      have k : ∀ b o, H' b = some o → upd H' p (.lst ys) b = some o := fun b o e => by rw [upd_ne (ne_of_none e hp')]; exact e
      refine q (.ref p) F' _ ⟨ev.le, fun b o e n => k b o (ev.keep b o e n), ev.keepF, fun b o e => ?_⟩ (fun b o e => k b o (le' _ _ e)) ⟨p, rfl, hp, ys, upd_same, hF, r⟩
      obtain ⟨o', e'⟩ := ev.dom b o e
      exact ⟨o', k b o' e'⟩
    · cases ho
  · cases ho
section
open PySem.W
variable {prog : Program} {w : World} {A : Around} {E : Value → Shared → Prop} {s : Shared}
theorem sorted_items {kvs : List (Key × Value)} {r d : Addr} {ep : Nat} {Q : Value → Shared → Prop} (hh : A.handled = none) (hv : s.heap.IsItemsView r d) (hm : s.heap.DictAt (mixKind prog w) d kvs ep) (hn : kvs.length ≤ sizeLine)
    (H : ∀ (h' : Heap) (tk : Nat) (as : List Addr), (∀ b o, s.heap.get? b = some o → h'.get? b = some o) → as.length = kvs.length → KdxG (mixKind prog w) kvs s.heap.objs.size h' as → ∃ (bs : List PyData) (R : Value → PyData → Prop), EachIs R (as.map Value.ref) bs ∧
      (∀ v b, R v b → ∃ as, Reads h' v b as) ∧ AllAlike bs ∧ Sortable bs ∧ bs.length ≤ sizeLine ∧ (∀ b, b ∈ bs → A.units + 2 + b.depth < cLine) ∧
      ∀ (h2 : Heap) (tk2 : Nat) (p : Addr) (out : List Value) (c : Nat), (∀ b o, h'.get? b = some o → h2.get? b = some o) → h'.objs.size ≤ p → h2.get? p = some (seqObj "list" out.toArray c) → out.length = bs.length → EachIs R out (bs.mergeSort (dataLe false id)) → Q (.ref p) { s with heap := h2, toks := tk2 }) :
    wpAny (model prog w) A (call (.builtin "sorted") [.ref r]) Q E s := by
  refine Calls.call_function_entry kind_sorted plain_sorted entry_sorted (args_sorted1 _) ?_
  unfold Builtin.«sorted»
  refine wpAny_bind (m := checkCount "sorted" 1 1 _) (wpAny_pure ?_)
  refine wpAny_bind (kdx_collect (A := A.in1) hh hv hm hn fun h' tk as k1 hl hG => ?_)
  obtain ⟨bs, R, e1, er, hal, hk, hL, hu, hQ⟩ := H h' tk as k1 hl hG
  generalize hvs : as.map Value.ref = vs at e1
  have hvl : vs.length = bs.length := e1.length
  refine wpAny_bind (wpAny_newList ?_ (by rw [hvl]; exact hL))
  have hoL : (h'.push (seqObj "list" vs.toArray 0)).get? h'.objs.size = some (seqObj "list" vs.toArray 0) := Heap.get?_push_size _ rfl
  have k2 : ∀ b u, h'.get? b = some u → (sortingHeap (h'.push (seqObj "list" vs.toArray 0)) h'.objs.size vs).get? b = some u := fun b u e =>
    sortingHeap_old (Nat.ne_of_lt (Heap.lt_size e)) (Heap.get?_push_of_some _ e)
  have er' : EachIs (fun v b => ∃ as, Reads (sortingHeap (h'.push (seqObj "list" vs.toArray 0)) h'.objs.size vs) v (id b) as) vs bs := e1.mono fun v b rv => by
    obtain ⟨as, q⟩ := er v b rv
    exact ⟨as, PyProof.Rows.Reads.keeps (fun b u e => k2 b u e) q⟩
  have S : SortsAt prog w A.in1.in1 { s with heap := sortingHeap (h'.push (seqObj "list" vs.toArray 0)) h'.objs.size vs, toks := tk } (dataKind (sortingHeap (h'.push (seqObj "list" vs.toArray 0)) h'.objs.size vs) (bs.map id)) vs :=
    SortsAt.data (s := { s with heap := sortingHeap (h'.push (seqObj "list" vs.toArray 0)) h'.objs.size vs, toks := tk }) (each_map (R := fun v d => ∃ as, Reads (sortingHeap (h'.push (seqObj "list" vs.toArray 0)) h'.objs.size vs) v d as) id er') (by rw [List.map_id]; exact hal) (by rw [List.map_id]; exact hk) (bound_map (enc := id) hu)
  refine wpAny_bind (wpAny_holding (wpAny_call_entry slot_list_sort ⟨_, hoL, rfl⟩ entry_list_sort (list_sort_vals (s := { s with heap := h'.push (seqObj "list" vs.toArray 0), toks := tk }) hoL S (by rw [hvl]; exact hL) ⟨_, rfl, ?_⟩) (args_list_sort _)))
  obtain ⟨c, hc⟩ := sortedHeap_at (vs := vs) (out := (sortVals (dataKind (sortingHeap (h'.push (seqObj "list" vs.toArray 0)) h'.objs.size vs) (bs.map id)) false vs vs).toArray) hoL
  refine wpAny_pure ⟨_, rfl, ?_⟩
  refine hQ _ tk h'.objs.size _ c (fun b u q => ?_) (Nat.le_refl _) hc (by rw [sortVals_length false rfl]; exact hvl) (sortVals_data (enc := id) false e1 er' (by rw [List.map_id]; exact hal))
  have hlt := Heap.lt_size q
  show (sortedHeap (h'.push (seqObj "list" vs.toArray 0)) h'.objs.size vs _).get? b = some u
  rw [sortedHeap_old (Nat.ne_of_lt hlt) (by rw [size_push']; exact Nat.lt_succ_of_lt hlt)]
  exact Heap.get?_push_of_some _ q
end
section
variable {X : Cx} {o : Expr} {p pos apos mpos : Pos} {td : TE}
open PySem.W in
theorem pe_sortItems (hc : X.calm = true) (hu : X.A.units + 64 < cLine) (hg : Gl X "sorted") (hm : X.mg "sorted" = none) (hd : PE X o td) (hbase : attributeBase o "items" X.env (eval o X.env) = eval o X.env := by rfl) (hline : (apos.endLine == mpos.line) = true := by rfl)
    (hse : starEach [Expr.Call (.Attribute o "items" apos) [] [] mpos] X.env = [(false, eval (Expr.Call (.Attribute o "items" apos) [] [] mpos) X.env)] := by rfl) :
    PE X (.Call (.Name "sorted" p) [.Call (.Attribute o "items" apos) [] [] mpos] [] pos) (tUn (rItemsK X.K) td) := by
  refine ⟨fun pins s σ H Q I h => ?_⟩
  refine wpAny_Call_Name_kw (ld_blt I hg hm (u := .builtin "sorted") (by first | rfl | decide +kernel) ?_ (by first | decide +kernel | decide) (by first | decide +kernel | decide))
  rw [hse]
  refine PySem.callWith_builtin1 (wpAny_Call_method0_late hbase hline (thn (hd.run pins s σ H _ I h) fun v s1 ⟨x, H1, I1, r1, Fa, a, kvs, ds, le, ex, hn, rr, ok, q⟩ => ?_))
  subst ex
  obtain rfl : v = Value.ref a := r1
  obtain ⟨hz, hsys, vs, kt, dd⟩ := dk_rd I1.hok hn
  obtain ⟨ob, es, ep, ho, ex, hdat, hko, hpr, hnd⟩ := id dd
  refine ⟨"dict", "dict.items", PySem.F.plainAttrs_dict, PySem.F.slot_dict_items, PySem.F.type_dict_items, ⟨ob, ho, ex.1⟩, fun b e => ?_, Calls.callWith_builtin rfl (PySem.evalArgs_none ?_)⟩
  · cases e
    exact ⟨ob, ho, ex.2.1⟩
  refine call_meetsIn PySem.F.slot_dict_items ⟨ob, ho, ex.1⟩ PySem.F.entry_dict_items (PySem.F.args_dict_items_1 _) (meets_dict_items (mixKind X.prog X.w) a hsys) ⟨⟨vs, dd⟩, ?_⟩
  have k1 : ∀ b u, s1.heap.get? b = some u → (s1.heap.push { cls := .type "dict_items", data := .fields #[.ref a] }).get? b = some u := fun b u e => Heap.get?_push_of_some _ e
  have I2 : Inv X pins σ H1 { s1 with heap := s1.heap.push { cls := .type "dict_items", data := .fields #[.ref a] } } := I1.kept (t' := s1.toks) k1
  obtain ⟨k1', k2', k3'⟩ := okS_iff ok
  obtain ⟨ep', hat⟩ := dd.dictAt
  have lk : kvs.length = vs.length := Paired.length kt
  have lr : kvs.length = ds.length := rr.length
  refine sorted_items (s := { s1 with heap := s1.heap.push { cls := .type "dict_items", data := .fields #[.ref a] } }) (kvs := vs) (I.ok.hd hc) ⟨_, Heap.get?_push_size _ rfl, rfl, rfl⟩ (hat.push _) (by omega) fun h' tk as kk hl hG => ?_
  -- the new tuples
  have nd : as.Nodup := List.Pairwise.imp (fun {a b} (h : a < b) => Nat.ne_of_lt h) hG.rise
  have I3 : Inv X pins σ H1 { s1 with heap := h', toks := tk } := I2.kept (t' := tk) kk
  have info : ∀ (j : Nat) (b : Addr) (kv : Key × V), as[j]? = some b → kvs[j]? = some kv → ∃ key y, h'.get? b = some { cls := .type "tuple", data := .seq #[key, y] } ∧ RelV (kV kv.1) key ∧ RelV kv.2 y := fun j b kv e1 e2 => by
    obtain ⟨key, k, y, f1, f2, f3⟩ := hG.pairs j b e1
    obtain ⟨qv, g1, g2, g3⟩ := LiI.paired_get kt e2
    rw [f1] at g1
    cases g1
    refine ⟨key, y, f3, ?_, g3⟩
    rw [show kv.1 = k from g2]
    exact relV_key (show keyIs k key = true from f2)
  generalize hL : (as.zip kvs).map (fun z => ((z.1, (h'.get? z.1).getD { cls := .none, data := .fields #[] }, [kV z.2.1, z.2.2]) : NewT)) = L
  have eL : L.map (·.1) = as := by
    rw [← hL, List.map_map]
    show (as.zip kvs).map Prod.fst = as
    rw [List.map_fst_zip (by omega)]
  have memL : ∀ e ∈ L, ∃ (j : Nat) (kv : Key × V), as[j]? = some e.1 ∧ kvs[j]? = some kv ∧ e.2.2 = [kV kv.1, kv.2] ∧ ∃ key y, h'.get? e.1 = some { cls := .type "tuple", data := .seq #[key, y] } ∧ RelV (kV kv.1) key ∧ RelV kv.2 y ∧ e.2.1 = { cls := .type "tuple", data := .seq #[key, y] } := fun e he => by
    rw [← hL] at he
    obtain ⟨z, hz1, rfl⟩ := List.mem_map.mp he
    obtain ⟨j, hj⟩ := List.mem_iff_getElem?.mp hz1
    obtain ⟨z1, z2⟩ := List.getElem?_zip_eq_some.mp hj
    obtain ⟨key, y, f1, f2, f3⟩ := info j z.1 z.2 z1 z2
    exact ⟨j, z.2, z1, z2, rfl, key, y, f1, f2, f3, by show (h'.get? z.1).getD _ = _; rw [f1]; rfl⟩
  have fresh : ∀ e ∈ L, s1.heap.objs.size ≤ e.1 := fun e he => by
    obtain ⟨j, kv, e1, _⟩ := memL e he
    have h3 : (s1.heap.push { cls := .type "dict_items", data := .fields #[.ref a] }).objs.size < e.1 := hG.above e.1 (List.mem_of_getElem? e1)
    have hz2 : (s1.heap.push { cls := .type "dict_items", data := .fields #[.ref a] }).objs.size = s1.heap.objs.size + 1 := Heap.size_push ..
    omega
  have newL : ∀ e ∈ L, H1 e.1 = none := fun e he => I1.hok.fresh (fresh e he)
  have I4 : Inv X pins σ (putF H1 L) { s1 with heap := h', toks := tk } := takeF I1 L H1 I3 (by rw [eL]; exact nd) fun e he => by
    refine ⟨fresh e he, newL e he, fun H2 => ?_⟩
    obtain ⟨j, kv, e1, e2, e3, key, y, f1, f2, f3, f4⟩ := memL e he
    rw [e3, f4]
    exact ⟨f1, by show 2 ≤ sizeLine; decide, [key, y], .cons f2 (.cons f3 .nil), ⟨_, f1, rfl, _, rfl⟩⟩
  obtain ⟨ev, le2⟩ := putF_evo (F := Fa) (H := H1) (L := L) le (by rw [eL]; exact nd) newL
  have E1 : EachIs (fun (u : Value) (d : PyData) => ∃ y, RelV y u ∧ Rp X.K (putF Fa L) y d) (as.map Value.ref) (ds.map pairD) := items_each ev.le rr (by omega) fun j b kv e1 e2 => by
    obtain ⟨key, y, f1, f2, f3⟩ := info j b kv e1 e2
    refine ⟨{ cls := .type "tuple", data := .seq #[key, y] }, ?_, rfl⟩
    have m : ((b, { cls := .type "tuple", data := .seq #[key, y] }, [kV kv.1, kv.2]) : NewT) ∈ L := by
      rw [← hL]
      refine List.mem_map.mpr ⟨(b, kv), List.mem_of_getElem? (List.getElem?_zip_eq_some.mpr ⟨e1, e2⟩), ?_⟩
      show (b, (h'.get? b).getD _, _) = _
      rw [f1]; rfl
    exact putF_at L Fa (by rw [eL]; exact nd) m
  refine ⟨ds.map pairD, _, E1, fun v b ⟨y, rv, rp⟩ => Rp.reads I4 b y v (rp.mono le2) rv, k1', k2', by rw [List.length_map]; omega, fun b hb => ?_, fun h2 tk2 p out c k4 hp hget hlen eo => ?_⟩
  · have := depthAll_mem hb
    show X.A.units + 2 + b.depth < cLine
    omega
  · obtain ⟨zs, h1, h3⟩ := each_back eo
    have hyl : zs.length = ds.length := by rw [h1.length, hlen, List.length_map]
    have hp1 : s1.heap.objs.size ≤ p := by
      have h0 : (s1.heap.push { cls := .type "dict_items", data := .fields #[.ref a] }).objs.size ≤ h'.objs.size := by
        have h5 : s1.heap.objs.size < h'.objs.size := Heap.lt_size (kk s1.heap.objs.size _ (Heap.get?_push_size _ rfl))
        have hz2 : (s1.heap.push { cls := .type "dict_items", data := .fields #[.ref a] }).objs.size = s1.heap.objs.size + 1 := Heap.size_push ..
        omega
      have hz2 : (s1.heap.push { cls := .type "dict_items", data := .fields #[.ref a] }).objs.size = s1.heap.objs.size + 1 := Heap.size_push ..
      omega
    have hp2 : putF H1 L p = none := I4.hok.fresh hp
    refine ⟨.ref p, upd (putF H1 L) p (.lst zs), I4.laid (t' := tk2) k4 hp ⟨?_, out, c, h1, hget⟩, rfl, q _ _ zs p ev le2 hyl h3 (I1.hok.fresh hp1) hp2⟩
    rw [hyl]; omega
theorem de_sortItems {W : XW} {f : En → Res Op} {k : Nat} (hr : Room k X.A) (hc : X.calm = true) (hg : Gl X "sorted") (hm : X.mg "sorted" = none) (hd : DE X W o f) (hbase : attributeBase o "items" X.env (eval o X.env) = eval o X.env := by rfl) (hline : (apos.endLine == mpos.line) = true := by rfl)
    (hse : starEach [Expr.Call (.Attribute o "items" apos) [] [] mpos] X.env = [(false, eval (Expr.Call (.Attribute o "items" apos) [] [] mpos) X.env)] := by rfl) :
    DE X W (.Call (.Name "sorted" p) [.Call (.Attribute o "items" apos) [] [] mpos] [] pos) (sP1 pItemsK f) :=
  de_1 p1_itemsK (fun _ pa => pe_sortItems hc hr.units hg hm pa hbase hline hse) hd
end
/-! ### dict(t) -/
def rDicT (K : PySem.W.Frag) : List V → Hp → VK → Prop := fun xs H Q => plainOn = true ∧ ∃ (a : Addr) (ps : List Addr) (kvs : List (Key × V)), xs = [.ref a] ∧ SqP K H a (ps.map V.ref) ∧ Paired (fun p kv => SqT K H p [kV kv.1, kv.2]) ps kvs ∧ ∀ p, H p = none → Q (.ref p) (upd H p (.dK (mergeK [] kvs)))
theorem pairs_carry {P : Program} {w : World} : ∀ {ps : List Addr} {prs : List (Key × Value)} {h : Heap}, prs.length = ps.length → (∀ (j : Nat) (q : Key × Value), prs[j]? = some q → ∃ (b : Addr) (u : Value), ps[j]? = some b ∧ IsTup h b #[u, q.2] ∧ keyIs q.1 u = true) →
    ∃ us : List Value, us.length = prs.length ∧ ∀ (j : Nat) (q : Key × Value), prs[j]? = some q → ∃ (b : Addr) (u : Value), ps[j]? = some b ∧ us[j]? = some u ∧ IsTup h b #[u, q.2] ∧ keyIs q.1 u = true
  | _, [], _, _, _ => ⟨[], rfl, fun j q e => by simp at e⟩
  | [], _ :: _, _, hl, _ => by cases hl
  | p :: ps, q :: prs, h, hl, H => by
    obtain ⟨us, e1, e2⟩ := pairs_carry (P := P) (w := w) (ps := ps) (prs := prs) (h := h) (by simpa using hl) fun j q' e => by
      obtain ⟨b, u, f1, f2⟩ := H (j + 1) q' (by simpa using e)
      exact ⟨b, u, by simpa using f1, f2⟩
    obtain ⟨b, u, f1, f2, f3⟩ := H 0 q rfl
    refine ⟨u :: us, by rw [List.length_cons, List.length_cons, e1], fun j q' e => ?_⟩
    cases j with
    | zero => cases Option.some.inj e; exact ⟨b, u, f1, rfl, f2, f3⟩
    | succ j =>
      obtain ⟨b, u, g1, g2, g3⟩ := e2 j q' (by simpa using e)
      exact ⟨b, u, by simpa using g1, by simpa using g2, g3⟩
theorem call_dicT {X : Cx} (hcalm : X.calm = true) : CallR X (.type "dict") (rDicT X.K) := by
  intro pins s σ H xs us Q I r q
  obtain ⟨on, a, ps, kvs, ex, hq, hp, q⟩ := q
  subst ex
  obtain ⟨u, eu, rx⟩ := vals1 r
  subst eu
  cases rx
  obtain ⟨its, rv, pl, hz⟩ := I.tuple hq.sq
  obtain ⟨od, hod, hdn⟩ := Inv.plain on I hq
  have ei := refs_at rv
  subst ei
  rw [List.length_map] at hz
  obtain ⟨prs, rel, hl, hpr⟩ := pairs_of I hp
  obtain ⟨us, hul, hat⟩ := pairs_carry (P := X.prog) (w := X.w) hl hpr
  obtain ⟨o, ho, hc, n, hdat⟩ := pl
  rw [ho] at hod; cases hod
  have hTs : ∀ j, j < prs.length → ps[j]? = some (ps.getD j 0) := fun j hj => by
    rw [List.getD_eq_getElem?_getD, List.getElem?_eq_getElem (by rw [← hl]; exact hj)]; rfl
  refine PySem.call_dict_pairs (knd := mixKind X.prog X.w) (kvs := prs) (PairArg.tuple a (ps.map Value.ref).toArray (fun j => ps.getD j 0) (us.zip (prs.map (·.2)))) (I.ok.hd hcalm)
    ⟨⟨_, n, ho, hc, hdn, hdat⟩, by rw [List.size_toArray, List.length_map, List.length_zip, List.length_map, hul]; omega, fun j k v e => ?_⟩ ⟨by rw [List.length_zip, List.length_map]; omega, fun i key v e => ?_⟩ (by rw [List.length_zip, List.length_map]; omega) fun h' tk hd' k => ?_
  · obtain ⟨e1, e2⟩ := List.getElem?_zip_eq_some.mp e
    rw [List.getElem?_map, Option.map_eq_some_iff] at e2
    obtain ⟨qq, e3, e4⟩ := e2
    obtain ⟨b, u, g1, g2, g3, g4⟩ := hat j qq e3
    have hj := (List.getElem?_eq_some_iff.mp e3).1
    rw [hTs j hj] at g1
    cases g1
    dsimp only at e1 e4
    rw [g2] at e1; cases e1
    subst e4
    refine ⟨?_, .inl g3⟩
    rw [List.getElem?_toArray, List.getElem?_map, hTs j hj]; rfl
  · obtain ⟨e1, e2⟩ := List.getElem?_zip_eq_some.mp (show (us.zip (prs.map (·.2)))[i]? = some (key, v) from e)
    rw [List.getElem?_map, Option.map_eq_some_iff] at e2
    obtain ⟨qq, e3, e4⟩ := e2
    obtain ⟨b, u, g1, g2, g3, g4⟩ := hat i qq e3
    dsimp only at e1 e4
    rw [g2] at e1; cases e1
    subst e4
    exact ⟨qq.1, e3, g4⟩
  · have hm : (s.heap.objs.size == sysModules) = false := beq_eq_false_iff_ne.mpr (Nat.ne_of_gt I.big)
    have hlen : (mergeK [] kvs).length ≤ sizeLine := by
      refine Nat.le_trans (length_mergeK kvs []) ?_
      rw [List.length_nil, Nat.zero_add, rel.length, hl]
      exact hz
    exact ⟨.ref s.heap.objs.size, upd H s.heap.objs.size (.dK (mergeK [] kvs)), I.laid (t' := tk) (fun b o e => k b o (by simp) e) (Nat.le_refl _) (show ObjOk X.prog X.w _ _ _ (.dK (mergeK [] kvs)) from ⟨hlen, hm, merged [] prs, KV.merge rel .nil, hd'⟩), rfl, q _ (I.hok.fresh (Nat.le_refl _))⟩
def pDicT : List PyData → Option Op
  | [.tuple ds] => if plainOn = true then (pairsD ds).map fun ps => .fr (.dict (mergeD [] ps)) else none
  | xs => pDicOf2 xs
theorem pn_dicT {K : PySem.W.Frag} : PN K (fun xs H Q => rDicT K xs H Q ∨ (rDicN K xs H Q ∨ (∃ (a : Addr) (ps : List Addr) (kvs : List (Key × V)), xs = [.ref a] ∧ SqL K H a (ps.map V.ref) ∧ Paired (fun p kv => SqT K H p [kV kv.1, kv.2]) ps kvs ∧ ∀ p, H p = none → Q (.ref p) (upd H p (.dK (mergeK [] kvs)))))) pDicT := by
  intro F H xs ds o Q le rs ho q
  unfold pDicT at ho
  split at ho
  · split at ho
    · rename_i ds on
      obtain ⟨v, rfl, a, ys, rfl, h1, r1⟩ := rds1 rs
      cases e : pairsD ds with
      | none => rw [e] at ho; cases ho
      | some ps =>
        rw [e] at ho
        cases ho
        obtain ⟨as, kvs, rfl, e2, e3⟩ := pairsD_rp le r1 e
        exact .inl ⟨on, a, as, kvs, rfl, same_sqP le h1, e2, fun p hp => gives_dic le (RpK.merge e3 .nil) hp q⟩
    · cases ho
  · exact .inr (pn_dicOf2 F H xs _ o Q le rs ho q)
end Py
end L2

namespace L2
namespace Py
open PySem PySem.Spec PyProof.Rows
/-! ## Plain laws of the semantics: loops and comprehensions -/
def lcTurn (g : PyData → En → Res Unit) (t : En → Res Bool) (f : En → Res Op) (vs : List Nat) (d : PyData) (ρ : En) : Res (Option PyData) := match g d ρ with
  | .ok _ ρ1 => (match t ρ1 with
    | .ok true ρ2 => (match f ρ2 with
      | .ok o ρ3 => (match fz o ρ3 with
        | .ok x ρ4 => .ok (some x) (inE [] vs 0 ρ4)
        | _ => .bad)
      | _ => .bad)
    | .ok false ρ2 => .ok none (inE [] vs 0 ρ2)
    | _ => .bad)
  | _ => .bad
section
variable {g : PyData → En → Res Unit} {t : En → Res Bool} {f : En → Res Op} {vs : List Nat} {ds : List PyData} {ρ ρ' : En} {b : En → Out}
theorem lcGo_cons (d : PyData) (ds : List PyData) (ρ : En) : lcGo g t f vs (d :: ds) ρ = match lcTurn g t f vs d ρ with
    | .ok (some x) ρ' => (match lcGo g t f vs ds ρ' with
      | .ok xs ρ'' => .ok (x :: xs) ρ''
      | _ => .bad)
    | .ok none ρ' => lcGo g t f vs ds ρ'
    | _ => .bad := by
  conv => lhs; unfold lcGo
  unfold lcTurn
  cases g d ρ with
  | bad => rfl
  | exc c r => rfl
  | ok u ρ1 =>
    cases q : t ρ1 with
    | bad => simp only [q]
    | exc c r => simp only [q]
    | ok bb ρ2 =>
      simp only [q]
      cases bb with
      | false => rfl
      | true =>
        simp only
        cases f ρ2 with
        | bad => rfl
        | exc c r => rfl
        | ok o ρ3 =>
          simp only
          cases fz o ρ3 with
          | bad => rfl
          | exc c r => rfl
          | ok x ρ4 => rfl
/-- a comprehension that leaves the slots as they are -/
theorem lcGo_map (F : PyData → Option PyData) : ∀ {ds : List PyData}, (∀ d ∈ ds, lcTurn g t f vs d ρ = .ok (F d) ρ) → lcGo g t f vs ds ρ = .ok (ds.filterMap F) ρ
  | [], _ => rfl
  | d :: ds, h => by
    rw [lcGo_cons, h d List.mem_cons_self]
    have ih := lcGo_map F (ds := ds) fun x m => h x (List.mem_cons_of_mem _ m)
    cases q : F d with
    | none => simp only [ih, List.filterMap_cons, q]
    | some x => simp only [ih, List.filterMap_cons, q]
/-- a comprehension whose turns keep P, each giving something good -/
theorem lcGo_inv (P : En → Prop) (G : PyData → Prop) : ∀ {ds : List PyData} {ρ : En}, (∀ d ∈ ds, ∀ ρ, P ρ → ∃ x ρ', lcTurn g t f vs d ρ = .ok (some x) ρ' ∧ G x ∧ P ρ') → P ρ → ∃ xs ρ', lcGo g t f vs ds ρ = .ok xs ρ' ∧ xs.length = ds.length ∧ (∀ x ∈ xs, G x) ∧ P ρ'
  | [], ρ, _, p => ⟨[], ρ, rfl, rfl, (fun _ m => nomatch m), p⟩
  | d :: ds, ρ, h, p => by
    obtain ⟨x, ρ1, e1, gx, p1⟩ := h d List.mem_cons_self ρ p
    obtain ⟨xs, ρ2, e2, l2, g2, p2⟩ := lcGo_inv P G (ds := ds) (ρ := ρ1) (fun y m => h y (List.mem_cons_of_mem _ m)) p1
    refine ⟨x :: xs, ρ2, ?_, by rw [List.length_cons, List.length_cons, l2], fun y m => ?_, p2⟩
    · rw [lcGo_cons, e1]; simp only [e2]
    · rcases List.mem_cons.mp m with e | m
      · rw [e]; exact gx
      · exact g2 y m
/-- a loop that runs through, by what holds of the part gone -/
theorem forGo_inv (P : List PyData → En → Prop) : ∀ {ds pre : List PyData} {ρ : En}, (∀ pre d post ρ, pre ++ d :: post = ds' → P pre ρ → ∃ ρ1 ρ2, g d ρ = .ok () ρ1 ∧ (b ρ1 = .nx ρ2 ∨ b ρ1 = .ct ρ2) ∧ P (pre ++ [d]) ρ2) → pre ++ ds = ds' → P pre ρ → ∃ ρ', forGo g b ds ρ = .nx ρ' ∧ P ds' ρ'
  | [], pre, ρ, _, e, p => ⟨ρ, rfl, by rw [List.append_nil] at e; rw [← e]; exact p⟩
  | d :: ds, pre, ρ, h, e, p => by
    obtain ⟨ρ1, ρ2, e1, e2, p2⟩ := h pre d ds ρ e p
    obtain ⟨ρ', e3, p3⟩ := forGo_inv P (ds := ds) (pre := pre ++ [d]) (ρ := ρ2) h (by rw [List.append_assoc]; exact e) p2
    refine ⟨ρ', ?_, p3⟩
    unfold forGo
    rcases e2 with e2 | e2
    · simp only [e1, e2]; exact e3
    · simp only [e1, e2]; exact e3
theorem forGo_all (P : En → Prop) {ds : List PyData} {ρ : En} (h : ∀ d ∈ ds, ∀ ρ, P ρ → ∃ ρ1 ρ2, g d ρ = .ok () ρ1 ∧ (b ρ1 = .nx ρ2 ∨ b ρ1 = .ct ρ2) ∧ P ρ2) (p : P ρ) : ∃ ρ', forGo g b ds ρ = .nx ρ' ∧ P ρ' := by
  induction ds generalizing ρ with
  | nil => exact ⟨ρ, rfl, p⟩
  | cons d ds ih =>
    obtain ⟨ρ1, ρ2, e1, e2, p2⟩ := h d List.mem_cons_self ρ p
    obtain ⟨ρ', e3, p3⟩ := ih (fun x m => h x (List.mem_cons_of_mem _ m)) p2
    refine ⟨ρ', ?_, p3⟩
    unfold forGo
    rcases e2 with e2 | e2
    · simp only [e1, e2]; exact e3
    · simp only [e1, e2]; exact e3
end
theorem free_no : Sl.no.free = true := rfl
theorem free_val (d : PyData) : (Sl.val d).free = true := rfl
theorem free_own (d : PyData) : (Sl.own d).free = true := rfl
theorem free_inn (d : PyData) : (Sl.inn d).free = false := rfl
theorem free_bor (d : PyData) : (Sl.bor d).free = false := rfl
theorem free_fix (d : PyData) : (Sl.fix d).free = false := rfl
/-! ### what the semantics does at a state: only where it is asked there -/
section
variable {α β : Type} {ρ : En} {m : En → Res α} {k : α → En → Res β} {f g f1 f2 f3 : En → Res Op} {gs : En → Res (List Op)} {t u : En → Res Bool} {a b : En → Out} {i j n : Nat} {d : PyData} {o : Op} {os : List Op} {vs ps : List Nat} {p1 : PyData → Option Op} {p2 p2' : PyData → PyData → Option Op} {pn : List PyData → Option Op} {fs : En → Res Op} {it : En → Res (List PyData × List Op)} {gg : PyData → En → Res Unit} {gl : List PyData → En → Res Unit} {l h : En → Res (Option Int)} {isT : PyData → Bool}
theorem bnd_ap : bnd m k ρ = match m ρ with | .ok a ρ' => k a ρ' | .exc c ρ' => .exc c ρ' | .bad => .bad := rfl
theorem andS_ap {k : α → En → Out} : andS m k ρ = match m ρ with | .ok a ρ' => k a ρ' | .exc c ρ' => .exc c ρ' | .bad => .bad := rfl
theorem seqS_ap : seqS a b ρ = match a ρ with | .nx ρ' => b ρ' | o => o := rfl
theorem sC_ap : sC d ρ = .ok (.v d) ρ := rfl
theorem sV_ap : sV i ρ = match ρ[i]? with
  | some (.val d) => .ok (.v d) ρ
  | some (.fix d) => .ok (.v d) ρ
  | some (.own _) => .ok (.pl i) ρ
  | some (.inn _) => .ok (.pl i) ρ
  | some (.bor _) => .ok (.pl i) ρ
  | _ => .bad := rfl
theorem rdd_ap : rdd o ρ = match rd ρ o with | some d => .ok d ρ | none => .bad := rfl
theorem opt_ap {q : Option Op} : opt q ρ = match q with | some o => .ok o ρ | none => .bad := rfl
theorem sP1_ap : sP1 p1 f ρ = bnd f (fun o => bnd (rdd o) fun d => opt (p1 d)) ρ := rfl
theorem sP2_ap : sP2 p2 f g ρ = bnd f (fun o1 => bnd g fun o2 => bnd (rdd o1) fun d => bnd (rdd o2) fun e => opt (p2 d e)) ρ := rfl
theorem sPN_ap : sPN pn gs ρ = bnd gs (fun os => bnd (rdds os) fun ds => opt (pn ds)) ρ := rfl
theorem bl_ap : bl o ρ = match rd ρ o with | some (.bool b) => .ok b ρ | _ => .bad := by
  unfold bl bnd rdd
  cases rd ρ o with
  | none => rfl
  | some d => cases d <;> rfl
theorem sTest_ap : sTest f ρ = bnd f (fun o => bnd (bl o) fun b ρ => .ok b ρ) ρ := rfl
theorem sIfS_ap : sIfS t a b ρ = match t ρ with | .ok true ρ' => a ρ' | .ok false ρ' => b ρ' | .exc c ρ' => .exc c ρ' | .bad => .bad := by
  unfold sIfS andS
  cases t ρ with
  | ok b ρ' => cases b <;> rfl
  | exc c r => rfl
  | bad => rfl
theorem sIf_ap {f g : En → Res α} : sIf t f g ρ = match t ρ with | .ok true ρ' => f ρ' | .ok false ρ' => g ρ' | .exc c ρ' => .exc c ρ' | .bad => .bad := by
  unfold sIf bnd
  cases t ρ with
  | ok b ρ' => cases b <;> rfl
  | exc c r => rfl
  | bad => rfl
theorem sAnd_ap : sAnd t u ρ = match t ρ with | .ok true ρ' => u ρ' | .ok false ρ' => .ok false ρ' | .exc c ρ' => .exc c ρ' | .bad => .bad := by
  unfold sAnd bnd
  cases t ρ with
  | ok b ρ' => cases b <;> rfl
  | exc c r => rfl
  | bad => rfl
theorem sOr_ap : sOr t u ρ = match t ρ with | .ok true ρ' => .ok true ρ' | .ok false ρ' => u ρ' | .exc c ρ' => .exc c ρ' | .bad => .bad := by
  unfold sOr bnd
  cases t ρ with
  | ok b ρ' => cases b <;> rfl
  | exc c r => rfl
  | bad => rfl
theorem sNot_ap : sNot t ρ = bnd t (fun b ρ => .ok (!b) ρ) ρ := rfl
theorem sAndV_ap : sAndV f g ρ = match sTest f ρ with | .ok true ρ' => g ρ' | .ok false ρ' => .ok (.v (.bool false)) ρ' | .exc c ρ' => .exc c ρ' | .bad => .bad := by
  unfold sAndV sTest bnd
  cases f ρ with
  | ok o ρ' =>
    simp only
    cases q : bl o ρ' with
    | ok b r => cases b <;> simp [bnd, q]
    | exc c r => simp [bnd, q]
    | bad => simp [bnd, q]
  | exc c r => rfl
  | bad => rfl
theorem sOrV_ap : sOrV f g ρ = match sTest f ρ with | .ok true ρ' => .ok (.v (.bool true)) ρ' | .ok false ρ' => g ρ' | .exc c ρ' => .exc c ρ' | .bad => .bad := by
  unfold sOrV sTest bnd
  cases f ρ with
  | ok o ρ' =>
    simp only
    cases q : bl o ρ' with
    | ok b r => cases b <;> simp [bnd, q]
    | exc c r => simp [bnd, q]
    | bad => simp [bnd, q]
  | exc c r => rfl
  | bad => rfl
theorem sNotV_ap : sNotV f ρ = bnd f (fun o => bnd (bl o) fun b ρ => .ok (.v (.bool (!b))) ρ) ρ := rfl
theorem unS_ap {m : En → Res Unit} : unS m ρ = andS m (fun _ ρ => .nx ρ) ρ := rfl
theorem sAsg_ap : sAsg i f ρ = unS (bnd f (put i)) ρ := rfl
theorem sSet_ap : sSet j f g ρ = unS (bnd g fun o => bnd (fz o) fun d => bnd (sVL j) fun _ => bnd f fun oi => bnd (rdd oi) fun k => mutS j (setP k d)) ρ := rfl
theorem sRet_ap : sRet f ρ = andS f rtO ρ := rfl
theorem sNext_ap : sNext ρ = .nx ρ := rfl
theorem sCons_ap : sCons f gs ρ = bnd f (fun o => bnd gs fun os ρ => .ok (o :: os) ρ) ρ := rfl
theorem sNil_ap : sNil ρ = .ok [] ρ := rfl
theorem sTup_ap : sTup gs ρ = bnd gs (fun os => bnd (fzs os) fun ds ρ => .ok (.v (.tuple ds)) ρ) ρ := rfl
theorem sLst_ap : sLst gs ρ = bnd gs (fun os => bnd (fzs os) fun ds ρ => .ok (.fr (.list ds)) ρ) ρ := rfl
theorem sDrop_ap : sDrop f ρ = andS f (fun _ ρ => .nx ρ) ρ := rfl
theorem sCall_ap : sCall fs gs ρ = bnd gs (callF fs) ρ := rfl
theorem sItr_ap : sItr f ρ = bnd f itO ρ := rfl
theorem sRng1_ap : sRng1 gs ρ = bnd gs (fun os => bnd (rdds os) fun ds ρ => match ds with | [.int j] => if -(2 ^ 62) ≤ j ∧ j < 2 ^ 62 then .ok (rng 0 j.toNat, []) ρ else .bad | _ => .bad) ρ := rfl
theorem sRng2_ap : sRng2 gs ρ = bnd gs (fun os => bnd (rdds os) fun ds ρ => match ds with | [.int i, .int j] => if -(2 ^ 62) ≤ i ∧ i < 2 ^ 62 ∧ -(2 ^ 62) ≤ j ∧ j < 2 ^ 62 then .ok (rng i (j - i).toNat, []) ρ else .bad | _ => .bad) ρ := rfl
theorem sFor_ap : sFor it gg b ρ = andS it (fun p => lentS (zq6x p.2) (forGo gg b p.1)) ρ := rfl
theorem lentS_nil : lentS [] b ρ = b ρ := rfl
theorem lentS_cons : lentS (i :: ps) b ρ = (b (inE (i :: ps) [] 0 ρ)).map (outE (i :: ps) [] 0 ρ) := rfl
theorem sLc_ap : sLc it gg t f vs ρ = bnd it (fun p ρ => if p.1.length ≤ sizeLine then (match lcGo gg t f vs p.1 (inE (zq6x p.2) vs 0 ρ) with | .ok xs ρf => .ok (.fr (.list xs)) (outE (zq6x p.2) vs 0 ρ ρf) | _ => .bad) else .bad) ρ := rfl
theorem gN_ap : gN i d ρ = put i (.v d) ρ := rfl
theorem gT_ap : gT n gl (.tuple ds) ρ = if ds.length = n then gl ds ρ else .bad := by
  show (if ds.length = n then gl ds else fun _ => .bad) ρ = _
  split <;> rfl
theorem gCn_ap : gCn gg gl (d :: ds) ρ = bnd (gg d) (fun _ => gl ds) ρ := rfl
theorem gNl_ap : gNl [] ρ = .ok () ρ := rfl
theorem sYes_ap : sYes ρ = .ok true ρ := rfl
theorem sSl_ap : sSl f l h ρ = bnd f (fun o => bnd l fun lo => bnd h fun hi => bnd (rdd o) fun d => opt (pSl d lo hi)) ρ := rfl
theorem sNo_ap : sNo ρ = .ok none ρ := rfl
theorem sSome_ap : sSome f ρ = bnd f (fun o => bnd (rdd o) fun d ρ => match d with | .int i => .ok (some i) ρ | _ => .bad) ρ := rfl
theorem sIs_ap : sIs isT f ρ = bnd f (fun o => bnd (rdd o) fun d ρ => .ok (.v (.bool (isT d))) ρ) ρ := rfl
theorem sRetN_ap : sRetN ρ = .rt (.v .none) ρ := rfl
theorem sCnt_ap : sCnt ρ = .ct ρ := rfl
theorem sBrk_ap : sBrk ρ = .bk ρ := rfl
theorem sAsgT_ap : sAsgT gg f ρ = unS (bnd f fun o => bnd (fz o) gg) ρ := rfl
theorem sMt_ap {p : List PyData → List PyData → Option (PyData × List PyData)} : sMt j p gs ρ = bnd (sVL j) (fun _ => bnd gs fun os => bnd (fzs os) fun args => mutP j fun ds => p ds args) ρ := rfl
theorem sDic0_ap : sDic0 ρ = .ok (.fr (.dict [])) ρ := rfl
theorem sChain_ap : sChain p2 p2' f1 f2 f3 ρ = bnd f1 (fun o1 => bnd f2 fun o2 => bnd (rdd o1) fun d1 => bnd (rdd o2) fun d2 => match p2 d1 d2 with
  | some (.v (.bool true)) => bnd f3 fun o3 => bnd (rdd o2) fun d2 => bnd (rdd o3) fun d3 => opt (p2' d2 d3)
  | some (.v (.bool false)) => fun ρ => .ok (.v (.bool false)) ρ
  | _ => fun _ => .bad) ρ := rfl
theorem zq66 {i j : Int} : pMul (.int i) (.int j) = if (-18446744073709551616 < i ∧ i < 18446744073709551616) ∨ (-18446744073709551616 < j ∧ j < 18446744073709551616) then some (.v (.int (i * j))) else none := by
  have e64 : (2 : Int) ^ 64 = 18446744073709551616 := by decide
  simp only [pMul, pI, e64, decide_eq_true_eq]
theorem pDiv_ap {i j : Int} : pDiv (.int i) (.int j) = if 0 < j ∧ j < 1073741824 then some (.v (.int (i / j))) else none := by simp only [pDiv, pI, decide_eq_true_eq]
theorem zq64 {i j : Int} : pMod (.int i) (.int j) = if 0 < j then some (.v (.int (i % j))) else none := by simp only [pMod, pI, decide_eq_true_eq]
theorem pPow_ap {i j : Int} : pPow (.int i) (.int j) = if 0 ≤ j ∧ j ≤ 1000000 ∧ i.natAbs < 18446744073709551616 then some (.v (.int (i ^ j.toNat))) else none := by
  have e64 : (2 : Nat) ^ 64 = 18446744073709551616 := by decide
  simp only [pPow, pI, e64, decide_eq_true_eq]
theorem pShl_ap {i j : Int} : pShl (.int i) (.int j) = if 0 ≤ j ∧ j ≤ 1000000 ∧ i.natAbs < 18446744073709551616 then some (.v (.int (i * 2 ^ j.toNat))) else none := by
  have e64 : (2 : Nat) ^ 64 = 18446744073709551616 := by decide
  simp only [pShl, pI, e64, decide_eq_true_eq]
theorem zq69 {i j : Int} : pShr (.int i) (.int j) = if 0 ≤ j then some (.v (.int (i / 2 ^ j.toNat))) else none := by simp only [pShr, pI, decide_eq_true_eq]
theorem runF_ap {args : En} : runF n b args = match b (args ++ List.replicate (n - args.length) .no) with
  | .rt (.v d) ρ => .ok (.v d) (zq70 args ρ)
  | .rt (.fr d) ρ => .ok (.fr d) (zq70 args ρ)
  | .nx ρ => .ok (.v .none) (zq70 args ρ)
  | _ => .bad := rfl
end
/-! ### bits -/
/-- the houses of a mask -/
def bitSet (bits : Nat) : List Int := ((List.range 6).filter fun i => bits / 2 ^ i % 2 == 1).map fun (i : Nat) => (i : Int)
theorem mem_rng {d : PyData} {lo : Int} {n : Nat} (h : d ∈ rng lo n) : ∃ i : Nat, i < n ∧ d = .int (lo + i) := by
  unfold rng at h
  obtain ⟨i, hi, e⟩ := List.mem_map.mp h
  exact ⟨i, List.mem_range.mp hi, e.symm⟩
theorem rng_length {lo : Int} {n : Nat} : (rng lo n).length = n := by unfold rng; rw [List.length_map, List.length_range]
theorem band1 (i : Nat) : Builtin.bitAnd (i : Int) 1 = ((i % 2 : Nat) : Int) := by
  show Int.ofNat (i &&& 1) = _
  rw [Nat.and_one_is_mod]
  rfl
/-- one turn of [h for h in range(6) if bits >> h & 1 == 1] gives the mask's houses -/
theorem rng6_filter (bits : Nat) : (rng 0 6).filterMap (fun d => match d with | .int i => if bits / 2 ^ i.toNat % 2 == 1 then some d else none | _ => none) = (bitSet bits).map PyData.int := by
  unfold rng bitSet
  simp only [List.filterMap_map, Int.zero_add, List.map_map]
  rw [← List.filterMap_eq_map, ← List.filterMap_eq_filter, List.filterMap_filterMap]
  congr 1
  funext i
  simp only [Function.comp, Int.toNat_natCast]
  split
  · rename_i h; simp [Option.guard, h]
  · rename_i h; simp [Option.guard, h]
theorem bitSet_range {bits : Nat} {x : Int} (h : x ∈ bitSet bits) : 0 ≤ x ∧ x < 6 := by
  unfold bitSet at h
  obtain ⟨i, hi, e⟩ := List.mem_map.mp h
  have := List.mem_range.mp (List.mem_filter.mp hi).1
  omega
theorem bitSet_length (bits : Nat) : (bitSet bits).length ≤ 6 := by
  unfold bitSet
  rw [List.length_map]
  exact Nat.le_trans (List.length_filter_le _ _) (by simp)
theorem eqv_int (i j : Int) : PyData.eqv (.int i) (.int j) = (i == j) := by rw [PyData.eqv]
theorem eqv_str (i j : Str) : PyData.eqv (.str i) (.str j) = (i == j) := by rw [PyData.eqv]
theorem eqv_bool (i j : Bool) : PyData.eqv (.bool i) (.bool j) = (i == j) := by rw [PyData.eqv]
theorem eqv_list (xs ys : List PyData) : PyData.eqv (.list xs) (.list ys) = PyData.eqvAll xs ys := by rw [PyData.eqv]
theorem eqv_tuple (xs ys : List PyData) : PyData.eqv (.tuple xs) (.tuple ys) = PyData.eqvAll xs ys := by rw [PyData.eqv]
theorem eqv_nn : PyData.eqv .none .none = true := by rw [PyData.eqv]
theorem eqv_ni (i : Int) : PyData.eqv .none (.int i) = false := by rw [PyData.eqv]
theorem eqv_nt (i : List PyData) : PyData.eqv .none (.tuple i) = false := by rw [PyData.eqv]
theorem eqv_in (i : Int) : PyData.eqv (.int i) .none = false := by rw [PyData.eqv]
theorem eqv_tn (i : List PyData) : PyData.eqv (.tuple i) .none = false := by rw [PyData.eqv]
theorem okD_int (i j : Int) : okD (.int i) (.int j) = true := by unfold okD; rw [PyData.plain, PyData.plain, PyData.depth, PyData.depth]; rfl
theorem okD_str (i j : Str) : okD (.str i) (.str j) = true := by unfold okD; rw [PyData.plain, PyData.plain, PyData.depth, PyData.depth]; rfl
theorem okD_bool (i j : Bool) : okD (.bool i) (.bool j) = true := by unfold okD; rw [PyData.plain, PyData.plain, PyData.depth, PyData.depth]; rfl
theorem plainAll_ints : ∀ ns : List Int, PyData.plainAll (ns.map PyData.int) = true
  | [] => rfl
  | n :: ns => by simp [PyData.plainAll, PyData.plain, plainAll_ints ns]
theorem depthAll_ints : ∀ ns : List Int, PyData.depthAll (ns.map PyData.int) = 0 ∨ PyData.depthAll (ns.map PyData.int) ≤ 1 := by
  intro ns
  induction ns with
  | nil => left; rfl
  | cons n ns ih => right; simp [PyData.depthAll, PyData.depth] <;> omega
theorem any_ints (ns : List Int) (i : Int) : ((ns.map PyData.int).any fun z => PyData.eqv z (.int i)) = decide (i ∈ ns) := by
  induction ns with
  | nil => rfl
  | cons n ns ih =>
    rw [List.map_cons, List.any_cons, ih, eqv_int]
    by_cases e : n = i
    · subst e; simp
    · simp [e, Ne.symm e]
theorem bools_map (bs : List Bool) : bools (bs.map PyData.bool) = some bs := by
  induction bs with
  | nil => rfl
  | cons b bs ih => simp [bools, ih]
theorem pAll_bools (bs : List Bool) : pAll [.list (bs.map PyData.bool)] = some (.v (.bool (bs.all id))) := by simp only [pAll, bools_map, Option.map_some]
theorem pAny_bools (bs : List Bool) : pAny [.list (bs.map PyData.bool)] = some (.v (.bool (bs.any id))) := by simp only [pAny, bools_map, Option.map_some]
theorem okIn_ints (ns : List Int) (i : Int) : okIn (ns.map PyData.int) (.int i) = true := by
  unfold okIn
  simp [plainAll_ints, PyData.plain, PyData.depth]
theorem pIn_ints (n : Bool → Bool) (ns : List Int) (i : Int) : pIn n (.int i) (.list (ns.map PyData.int)) = some (.v (.bool (n (decide (i ∈ ns))))) := by
  unfold pIn
  simp only [okIn_ints, if_true, any_ints]
theorem pIn_intsT (n : Bool → Bool) (ns : List Int) (i : Int) : pIn n (.int i) (.tuple (ns.map PyData.int)) = some (.v (.bool (n (decide (i ∈ ns))))) := by
  unfold pIn
  simp only [okIn_ints, if_true, any_ints]
theorem filterMap_ints (s : List Int) (p : Int → Bool) : (s.map PyData.int).filterMap (fun d => match d with | .int h => if p h = true then some (.int h) else none | _ => none) = (s.filter p).map PyData.int := by
  induction s with
  | nil => rfl
  | cons x s ih =>
    rw [List.map_cons, List.filterMap_cons]
    by_cases h : p x = true
    · simp only [h, if_true, List.filter_cons]
      rw [ih]; rfl
    · simp only [h, if_false, List.filter_cons, Bool.false_eq_true]
      rw [ih]
theorem small6 {n : Nat} (h : n ≤ 1000) : n ≤ sizeLine := Nat.le_of_lt (small1000 h)
theorem eqvAll_ints (ns ms : List Int) : PyData.eqvAll (ns.map PyData.int) (ms.map PyData.int) = decide (ns = ms) := by
  induction ns generalizing ms with
  | nil => cases ms <;> simp [PyData.eqvAll]
  | cons n ns ih =>
    cases ms with
    | nil => simp [PyData.eqvAll]
    | cons m ms =>
      rw [List.map_cons, List.map_cons, PyData.eqvAll, ih, eqv_int]
      by_cases h : n = m
      · subst h; simp
      · simp [h]
theorem depthAll_ints' (ns : List Int) : PyData.depthAll (ns.map PyData.int) ≤ 1 := by
  rcases depthAll_ints ns with h | h <;> omega
theorem okD_of {d e : PyData} (h1 : d.plain = true) (h2 : e.plain = true) (h3 : d.depth ≤ 64) : okD d e = true := by
  unfold okD
  rw [h1, h2, Bool.true_and, Bool.true_and, decide_eq_true_eq]
  exact Nat.le_trans (Nat.min_le_left _ _) h3
theorem plain_list {ds : List PyData} (h : PyData.plainAll ds = true) : (PyData.list ds).plain = true := by rw [PyData.plain]; exact h
theorem plain_tuple {ds : List PyData} (h : PyData.plainAll ds = true) : (PyData.tuple ds).plain = true := by rw [PyData.plain]; exact h
theorem depth_list {ds : List PyData} {n : Nat} (h : PyData.depthAll ds ≤ n) : (PyData.list ds).depth ≤ n + 1 := by rw [PyData.depth]; omega
theorem depth_tuple {ds : List PyData} {n : Nat} (h : PyData.depthAll ds ≤ n) : (PyData.tuple ds).depth ≤ n + 1 := by rw [PyData.depth]; omega
theorem plainAll_map {α : Type} {enc : α → PyData} : ∀ {xs : List α}, (∀ x ∈ xs, (enc x).plain = true) → PyData.plainAll (xs.map enc) = true
  | [], _ => rfl
  | x :: xs, h => by
    rw [List.map_cons, PyData.plainAll, h x List.mem_cons_self, plainAll_map (xs := xs) fun y m => h y (List.mem_cons_of_mem _ m)]
    rfl
theorem depthAll_map {α : Type} {enc : α → PyData} {n : Nat} : ∀ {xs : List α}, (∀ x ∈ xs, (enc x).depth ≤ n) → PyData.depthAll (xs.map enc) ≤ n
  | [], _ => Nat.zero_le _
  | x :: xs, h => by
    rw [List.map_cons, PyData.depthAll]
    exact Nat.max_le.mpr ⟨h x List.mem_cons_self, depthAll_map (xs := xs) fun y m => h y (List.mem_cons_of_mem _ m)⟩
theorem okD_ints (ns ms : List Int) : okD (.list (ns.map PyData.int)) (.list (ms.map PyData.int)) = true :=
  okD_of (plain_list (plainAll_ints ns)) (plain_list (plainAll_ints ms)) (Nat.le_trans (depth_list (depthAll_ints' ns)) (by decide))
theorem okD_intsT (ns ms : List Int) : okD (.tuple (ns.map PyData.int)) (.tuple (ms.map PyData.int)) = true :=
  okD_of (plain_tuple (plainAll_ints ns)) (plain_tuple (plainAll_ints ms)) (Nat.le_trans (depth_tuple (depthAll_ints' ns)) (by decide))
theorem pNe_ints (ns ms : List Int) : pNe (.list (ns.map PyData.int)) (.list (ms.map PyData.int)) = some (.v (.bool (!decide (ns = ms)))) := by
  simp only [pNe, okD_ints, if_true, eqv_list, eqvAll_ints]
theorem pEq_ints (ns ms : List Int) : pEq (.list (ns.map PyData.int)) (.list (ms.map PyData.int)) = some (.v (.bool (decide (ns = ms)))) := by
  simp only [pEq, okD_ints, if_true, eqv_list, eqvAll_ints]
theorem zq5w (i j : Int) : pEq (.int i) (.int j) = some (.v (.bool (i == j))) := by simp only [pEq, okD_int, if_true, eqv_int]
theorem zq5x (i j : Str) : pEq (.str i) (.str j) = some (.v (.bool (i == j))) := by simp only [pEq, okD_str, if_true, eqv_str]
theorem zq5y (i j : Bool) : pEq (.bool i) (.bool j) = some (.v (.bool (i == j))) := by simp only [pEq, okD_bool, if_true, eqv_bool]
theorem zq5z (i j : Int) : pNe (.int i) (.int j) = some (.v (.bool (!(i == j)))) := by simp only [pNe, okD_int, if_true, eqv_int]
theorem zq60 (i j : Str) : pNe (.str i) (.str j) = some (.v (.bool (!(i == j)))) := by simp only [pNe, okD_str, if_true, eqv_str]
theorem zq61 (i j : Bool) : pNe (.bool i) (.bool j) = some (.v (.bool (!(i == j)))) := by simp only [pNe, okD_bool, if_true, eqv_bool]
theorem rng1_nat {gs : En → Res (List Op)} {ρ ρ' : En} {o : Op} {M : Nat} (h : gs ρ = .ok [o] ρ') (hr : rd ρ' o = some (.int M)) (hM : M < 1000000) : sRng1 gs ρ = .ok (rng 0 M, []) ρ' := by
  have hb : -(2 ^ 62 : Int) ≤ (M : Int) ∧ (M : Int) < 2 ^ 62 := by omega
  unfold sRng1 bnd
  rw [h]
  simp only [rdds, bnd, rdd, hr]
  rw [if_pos hb, Int.toNat_natCast]
theorem rng2_nat {gs : En → Res (List Op)} {ρ ρ' : En} {o o2 : Op} {A M : Nat} (h : gs ρ = .ok [o, o2] ρ') (hr : rd ρ' o = some (.int A)) (hr2 : rd ρ' o2 = some (.int M)) (hA : A < 1000000) (hM : M < 1000000) : sRng2 gs ρ = .ok (rng A (M - A), []) ρ' := by
  have hb : -(2 ^ 62 : Int) ≤ (A : Int) ∧ (A : Int) < 2 ^ 62 ∧ -(2 ^ 62 : Int) ≤ (M : Int) ∧ (M : Int) < 2 ^ 62 := by omega
  unfold sRng2 bnd
  rw [h]
  simp only [rdds, bnd, rdd, hr, hr2]
  rw [if_pos hb]
  congr 3
  omega
/-- range(max(lo, min(hi, len(script)))) -/
theorem rng_script {ns : List Int} {ρ : En} {lo hi : Nat} (h0 : ρ[0]? = some (.val (script ns))) (hlo : lo < 1000) (hhi : hi < 1000) : sRng1 (sCons (sPN pMax (sCons (sC (.int lo)) (sCons (sPN pMin (sCons (sC (.int hi)) (sCons (sPN pLen (sCons (sV 0) (sNil))) (sNil)))) (sNil)))) (sNil)) ρ = .ok (rng 0 (max lo (min hi ns.length)), []) ρ := by
  have hmin : (if ((ns.length : Nat) : Int) < hi then ((ns.length : Nat) : Int) else hi) = ((min hi ns.length : Nat) : Int) := by split <;> omega
  have hmax : (if (lo : Int) < ((min hi ns.length : Nat) : Int) then ((min hi ns.length : Nat) : Int) else lo) = ((max lo (min hi ns.length) : Nat) : Int) := by split <;> omega
  refine rng1_nat (o := .v (.int ((max lo (min hi ns.length) : Nat) : Int))) ?_ rfl (by omega)
  rw [← hmax, ← hmin]
  simp [script, sCons_ap, sPN_ap, bnd_ap, sC_ap, sV_ap, sNil_ap, rdds, rdd_ap, rd, opt_ap, pLen, pBest, h0]
/-- a comprehension over things of one kind -/
theorem lcGo_enc {α : Type} (enc : α → PyData) (F : α → Option PyData) {g : PyData → En → Res Unit} {t : En → Res Bool} {f : En → Res Op} {vs : List Nat} {ρ : En} : ∀ {xs : List α}, (∀ x ∈ xs, lcTurn g t f vs (enc x) ρ = .ok (F x) ρ) → lcGo g t f vs (xs.map enc) ρ = .ok (xs.filterMap F) ρ
  | [], _ => rfl
  | x :: xs, h => by
    rw [List.map_cons, lcGo_cons, h x List.mem_cons_self]
    have ih := lcGo_enc enc F (xs := xs) fun y m => h y (List.mem_cons_of_mem _ m)
    cases q : F x with
    | none => simp only [ih, List.filterMap_cons, q]
    | some y => simp only [ih, List.filterMap_cons, q]
theorem lcGo_all {α : Type} (enc : α → PyData) (F : α → PyData) {g : PyData → En → Res Unit} {t : En → Res Bool} {f : En → Res Op} {vs : List Nat} {ρ : En} {xs : List α} (h : ∀ x ∈ xs, lcTurn g t f vs (enc x) ρ = .ok (some (F x)) ρ) : lcGo g t f vs (xs.map enc) ρ = .ok (xs.map F) ρ := by
  rw [lcGo_enc enc (fun x => some (F x)) h, List.filterMap_eq_map']
/-! ### steps one by one, where a part must not be unfolded -/
section
variable {i n : Nat} {f : En → Res Op} {a b : En → Out} {ρ ρ1 ρ2 args : En} {o : Op} {d : PyData} {it : En → Res (List PyData × List Op)} {g : PyData → En → Res Unit} {t : En → Res Bool} {vs : List Nat} {ds xs : List PyData} {os : List Op} {out : Out}
theorem asg_of (h : f ρ = .ok o ρ1) (h2 : put i o ρ1 = .ok () ρ2) : sAsg i f ρ = .nx ρ2 := by
  unfold sAsg unS andS bnd
  rw [h]; simp only [h2]
theorem seq_of (h : a ρ = .nx ρ1) (h2 : b ρ1 = out) : seqS a b ρ = out := by
  unfold seqS
  rw [h]; exact h2
theorem seq_rt (h : a ρ = .rt o ρ1) : seqS a b ρ = .rt o ρ1 := by
  unfold seqS
  rw [h]
theorem lc_of (h : it ρ = .ok (ds, os) ρ1) (hl : ds.length ≤ sizeLine) (h2 : lcGo g t f vs ds (inE (zq6x os) vs 0 ρ1) = .ok xs ρ2) : sLc it g t f vs ρ = .ok (.fr (.list xs)) (outE (zq6x os) vs 0 ρ1 ρ2) := by
  rw [sLc_ap]
  unfold bnd
  rw [h]
  simp only [hl, if_true, h2]
theorem for_of (h : it ρ = .ok (ds, []) ρ1) (h2 : forGo g b ds ρ1 = out) : sFor it g b ρ = out := by
  unfold sFor andS
  rw [h]
  exact h2
theorem if_yes (h : t ρ = .ok true ρ1) (h2 : a ρ1 = out) : sIfS t a b ρ = out := by rw [sIfS_ap, h]; exact h2
theorem if_no (h : t ρ = .ok false ρ1) (h2 : b ρ1 = out) : sIfS t a b ρ = out := by rw [sIfS_ap, h]; exact h2
theorem runF_rt (h : b (args ++ List.replicate (n - args.length) .no) = .rt (.v d) ρ) : runF n b args = .ok (.v d) (zq70 args ρ) := by rw [runF_ap, h]
theorem runF_fr (h : b (args ++ List.replicate (n - args.length) .no) = .rt (.fr d) ρ) : runF n b args = .ok (.fr d) (zq70 args ρ) := by rw [runF_ap, h]
theorem rng1_of {gs : En → Res (List Op)} {M : Nat} (h : gs ρ = .ok [o] ρ1) (hr : rd ρ1 o = some (.int M)) (hM : M < 1000000) : sRng1 gs ρ = .ok (rng 0 M, []) ρ1 := rng1_nat h hr hM
theorem pn_of {p : List PyData → Option Op} {gs : En → Res (List Op)} {o2 : Op} (h : gs ρ = .ok [o] ρ1) (hr : rd ρ1 o = some d) (hp : p [d] = some o2) : sPN p gs ρ = .ok o2 ρ1 := by
  unfold sPN bnd
  rw [h]
  simp [rdds, bnd, rdd, hr, opt, hp]
theorem cons_of {gs : En → Res (List Op)} (h : f ρ = .ok o ρ1) (h2 : gs ρ1 = .ok os ρ2) : sCons f gs ρ = .ok (o :: os) ρ2 := by
  unfold sCons bnd
  rw [h]; simp only [h2]
end
theorem atI_nat {α : Type} {xs : List α} {n : Nat} (h : n < xs.length) : atI xs (n : Int) = some xs[n] := by
  unfold atI ixN
  rw [if_pos (by omega), if_pos (by omega)]
  simp [h]
open PySem.W in
theorem alikeB_ints (ns : List Int) : alikeB (ns.map PyData.int) = true := by
  unfold alikeB
  rw [plainAll_ints]
  have hd := depthAll_ints' ns
  have hd2 : PyData.depthAll (ns.map PyData.int) ≤ 60 := by omega
  simp only [List.all_map, hd2, decide_true, Bool.and_true]
  rw [List.all_eq_true.mpr, List.all_eq_true.mpr]
  · rfl
  · intro x _; rfl
  · intro x _
    rw [Function.comp, List.all_eq_true]
    intro y _
    rfl
theorem pMax_ints (n : Int) (ns : List Int) : pMax [.list (.int n :: ns.map PyData.int)] = some (.v (.int (ns.foldl max n))) := by
  have h := alikeB_ints (n :: ns)
  rw [List.map_cons] at h
  show (if alikeB (.int n :: ns.map PyData.int) = true then some (Op.v (PySem.W.maxD (.int n) (ns.map PyData.int))) else none) = _
  rw [if_pos h, PySem.W.maxD_ints]
/-- xs[:n] -/
theorem cutD_to {α : Type} (xs : List α) (n : Nat) : cutD xs none (some (n : Int)) = xs.take n := by
  unfold cutD
  rw [HT.sIx_none, HT.sIx_nat, List.drop_zero, Nat.sub_zero]
  rcases Nat.le_total n xs.length with h | h
  · rw [Nat.min_eq_left h]
  · rw [Nat.min_eq_right h, List.take_of_length_le (Nat.le_refl _), List.take_of_length_le h]
theorem encs_of {α : Type} {enc : α → PyData} {ok : α → Prop} : ∀ {xs : List PyData}, (∀ x ∈ xs, ∃ r, x = enc r ∧ ok r) → ∃ rs : List α, xs = rs.map enc ∧ ∀ r ∈ rs, ok r
  | [], _ => ⟨[], rfl, fun _ m => nomatch m⟩
  | x :: xs, h => by
    obtain ⟨r, e, o⟩ := h x List.mem_cons_self
    obtain ⟨rs, es, os⟩ := encs_of (xs := xs) fun y m => h y (List.mem_cons_of_mem _ m)
    refine ⟨r :: rs, by rw [e, es, List.map_cons], fun y m => ?_⟩
    rcases List.mem_cons.mp m with q | q
    · rw [q]; exact o
    · exact os y q
open PySem.W in
theorem pNe_self {d : PyData} (h : d.plain = true) (h2 : d.depth ≤ 64) : pNe d d = some (.v (.bool false)) := by
  unfold pNe
  rw [if_pos (okD_of h h h2), PySem.SeqAt.eqv_refl_plain d h]
  rfl
open PySem.W in
theorem pEq_self {d : PyData} (h : d.plain = true) (h2 : d.depth ≤ 64) : pEq d d = some (.v (.bool true)) := by
  unfold pEq
  rw [if_pos (okD_of h h h2), PySem.SeqAt.eqv_refl_plain d h]
theorem popAt0 (d : PyData) (ds : List PyData) : pPopAt (d :: ds) [.int 0] = some (d, ds) := by
  unfold pPopAt
  simp only []
  rw [if_pos (by decide)]
  simp [seqIndex?]
end Py
end L2

namespace L2
namespace Py
open PySem PySem.Spec PyProof.Rows
/-! ## What a run must end in: the semantics read backwards, one step at a time.
No lambda stands in a wish but below a name: so nothing is rewritten before its turn. -/
theorem nr {α : Sort u} {a b : α} (h : a = b) : a = b := h
abbrev XQ := Str → En → Prop
def nX : XQ := fun _ _ => False
@[irreducible] def WE {α : Type} (m : En → Res α) (ρ : En) (X : XQ) (Q : α → En → Prop) : Prop := match m ρ with
  | .ok a ρ' => Q a ρ'
  | .exc c ρ' => X c ρ'
  | .bad => False
@[irreducible] def NB (o : Out) (Q : Out → Prop) : Prop := match o with
  | .bad => False
  | o => Q o
@[irreducible] def WS (b : En → Out) (ρ : En) (Q : Out → Prop) : Prop := NB (b ρ) Q
@[irreducible] def FE (f : En → Res Op) (args : En) (X : XQ) (Q : Op → En → Prop) : Prop := WE f args X Q
def KB {α β : Type} (k : α → En → Res β) (X : XQ) (Q : β → En → Prop) : α → En → Prop := fun a ρ => WE (k a) ρ X Q
def KS {α : Type} (k : α → En → Out) (Q : Out → Prop) : α → En → Prop := fun a ρ => WS (k a) ρ Q
def XS (Q : Out → Prop) : XQ := fun c ρ => Q (.exc c ρ)
def RDK (o : Option PyData) (ρ : En) (Q : PyData → En → Prop) : Prop := match o with
  | some d => Q d ρ
  | none => False
def OPK (o : Option Op) (ρ : En) (Q : Op → En → Prop) : Prop := match o with
  | some d => Q d ρ
  | none => False
def LK (i : Nat) (o : Option Sl) (ρ : En) (Q : Op → En → Prop) : Prop := match o with
  | some (.val d) => Q (.v d) ρ
  | some (.fix d) => Q (.v d) ρ
  | some (.own _) => Q (.pl i) ρ
  | some (.inn _) => Q (.pl i) ρ
  | some (.bor _) => Q (.pl i) ρ
  | _ => False
def BLK (d : PyData) (ρ : En) (Q : Bool → En → Prop) : Prop := match d with
  | .bool b => Q b ρ
  | _ => False
@[irreducible] def BrE {α : Type} (c : Bool) (m m' : En → Res α) (ρ : En) (X : XQ) (Q : α → En → Prop) : Prop := WE (if c = true then m else m') ρ X Q
@[irreducible] def BrS (c : Bool) (m m' : En → Out) (ρ : En) (Q : Out → Prop) : Prop := WS (if c = true then m else m') ρ Q
def sq (b : En → Out) (Q : Out → Prop) : Out → Prop
  | .nx ρ => WS b ρ Q
  | o => Q o
def kq (vs : List Nat) (Q : Out → Prop) : Out → Prop
  | .nx ρ => Q (.nx (clr vs ρ))
  | .ct ρ => Q (.ct (clr vs ρ))
  | .bk ρ => Q (.bk (clr vs ρ))
  | o => Q o
def mq (ps : List Nat) (ρ0 : En) (Q : Out → Prop) : Out → Prop := fun o => Q (o.map (outE ps [] 0 ρ0))
def FIN (args : En) (X : XQ) (Q : Op → En → Prop) : Out → Prop
  | .rt (.v d) ρ => Q (.v d) (zq70 args ρ)
  | .rt (.fr d) ρ => Q (.fr d) (zq70 args ρ)
  | .nx ρ => Q (.v .none) (zq70 args ρ)
  | _ => False
@[irreducible] def WF (g : PyData → En → Res Unit) (b : En → Out) (ds : List PyData) (ρ : En) (Q : Out → Prop) : Prop := NB (forGo g b ds ρ) Q
def TQ (N : En → Prop) (Q : Out → Prop) : Out → Prop
  | .nx ρ => N ρ
  | .ct ρ => N ρ
  | .bk ρ => Q (.nx ρ)
  | o => Q o
def TB (b : En → Out) (N : En → Prop) (Q : Out → Prop) : Unit → En → Prop := fun _ ρ1 => WS b ρ1 (TQ N Q)
@[irreducible] def TURN (g : PyData → En → Res Unit) (b : En → Out) (d : PyData) (ρ : En) (N : En → Prop) (Q : Out → Prop) : Prop := WE (g d) ρ nX (TB b N Q)
def NF (g : PyData → En → Res Unit) (b : En → Out) (ds : List PyData) (Q : Out → Prop) : En → Prop := fun ρ => WF g b ds ρ Q
@[irreducible] def WL (g : PyData → En → Res Unit) (t : En → Res Bool) (f : En → Res Op) (vs : List Nat) (ds : List PyData) (ρ : En) (Q : List PyData → En → Prop) : Prop := match lcGo g t f vs ds ρ with
  | .ok xs ρ' => Q xs ρ'
  | _ => False
def LTd (vs : List Nat) (N : Option PyData → En → Prop) : PyData → En → Prop := fun x ρ => N (some x) (inE [] vs 0 ρ)
def LTc (vs : List Nat) (N : Option PyData → En → Prop) : Op → En → Prop := fun o ρ => WE (fz o) ρ nX (LTd vs N)
def LTb (f : En → Res Op) (vs : List Nat) (N : Option PyData → En → Prop) : Bool → En → Prop
  | true, ρ => WE f ρ nX (LTc vs N)
  | false, ρ => N none (inE [] vs 0 ρ)
def LTa (t : En → Res Bool) (f : En → Res Op) (vs : List Nat) (N : Option PyData → En → Prop) : Unit → En → Prop := fun _ ρ => WE t ρ nX (LTb f vs N)
@[irreducible] def LT (g : PyData → En → Res Unit) (t : En → Res Bool) (f : En → Res Op) (vs : List Nat) (d : PyData) (ρ : En) (N : Option PyData → En → Prop) : Prop := WE (g d) ρ nX (LTa t f vs N)
section
variable {α β : Type} {ρ : En} {m m' : En → Res α} {k : α → En → Res β} {f f1 f2 f3 : En → Res Op} {gs : En → Res (List Op)} {t u : En → Res Bool} {a b : En → Out} {i j n : Nat} {d e : PyData} {ds es : List PyData} {o o1 o2 : Op} {os : List Op} {vs ps : List Nat} {p1 : PyData → Option Op} {p2 p2' : PyData → PyData → Option Op} {pn : List PyData → Option Op} {fs : En → Res Op} {it : En → Res (List PyData × List Op)} {g : PyData → En → Res Unit} {gl : List PyData → En → Res Unit} {l h : En → Res (Option Int)} {isT : PyData → Bool} {X : XQ} {Q : α → En → Prop} {QO : Op → En → Prop} {QB : Bool → En → Prop} {QU : Unit → En → Prop} {QD : PyData → En → Prop} {QL : List Op → En → Prop} {QI : List PyData × List Op → En → Prop} {QS : Out → Prop} {QN : Option Int → En → Prop} {c : Bool} {N : En → Prop} {NL : Option PyData → En → Prop}
theorem rdk (d : PyData) : RDK (some d) ρ QD = QD d ρ := nr (by with_unfolding_all rfl)
theorem opk (o : Op) : OPK (some o) ρ QO = QO o ρ := nr (by with_unfolding_all rfl)
theorem zq47 : LK i (some (.val d)) ρ QO = QO (.v d) ρ := nr (by with_unfolding_all rfl)
theorem zq48 : LK i (some (.fix d)) ρ QO = QO (.v d) ρ := nr (by with_unfolding_all rfl)
theorem zq49 : LK i (some (.own d)) ρ QO = QO (.pl i) ρ := nr (by with_unfolding_all rfl)
theorem zq4a : LK i (some (.inn d)) ρ QO = QO (.pl i) ρ := nr (by with_unfolding_all rfl)
theorem zq4b : LK i (some (.bor d)) ρ QO = QO (.pl i) ρ := nr (by with_unfolding_all rfl)
theorem blk : BLK (.bool c) ρ QB = QB c ρ := nr (by with_unfolding_all rfl)
theorem zq4c : BrE true m m' ρ X Q = WE m ρ X Q := nr (by with_unfolding_all rfl)
theorem zq4d : BrE false m m' ρ X Q = WE m' ρ X Q := nr (by with_unfolding_all rfl)
theorem zq4e : BrS true a b ρ QS = WS a ρ QS := nr (by with_unfolding_all rfl)
theorem zq4f : BrS false a b ρ QS = WS b ρ QS := nr (by with_unfolding_all rfl)
theorem zq4g : BrE (!c) m m' ρ X Q = BrE c m' m ρ X Q := by cases c <;> with_unfolding_all rfl
theorem zq4h : BrS (!c) a b ρ QS = BrS c b a ρ QS := by cases c <;> with_unfolding_all rfl
theorem brE_of (h1 : c = true → WE m ρ X Q) (h2 : c = false → WE m' ρ X Q) : BrE c m m' ρ X Q := by cases c <;> simp_all [zq4c, zq4d]
theorem brS_of (h1 : c = true → WS a ρ QS) (h2 : c = false → WS b ρ QS) : BrS c a b ρ QS := by cases c <;> simp_all [zq4e, zq4f]
theorem rd_v : rd ρ (.v d) = some d := nr (by with_unfolding_all rfl)
theorem zq4i : rd ρ (.fr d) = some d := nr (by with_unfolding_all rfl)
theorem zq4j : rd ρ (.pl i) = (ρ[i]?).bind Sl.dat := nr (by with_unfolding_all rfl)
theorem zq00 {Q : β → En → Prop} : WE (bnd m k) ρ X Q = WE m ρ X (KB k X Q) := by
  unfold WE bnd KB; cases m ρ <;> with_unfolding_all rfl
theorem kb {Q : β → En → Prop} {x : α} : KB k X Q x ρ = WE (k x) ρ X Q := nr (by with_unfolding_all rfl)
theorem zq01 {x : α} : WE (fun ρ => .ok x ρ) ρ X Q = Q x ρ := nr (by with_unfolding_all rfl)
theorem zq02 {x : α} : WE (Res.ok x) ρ X Q = Q x ρ := nr (by with_unfolding_all rfl)
theorem we_C : WE (sC d) ρ X QO = QO (.v d) ρ := nr (by with_unfolding_all rfl)
theorem we_V : WE (sV i) ρ X QO = LK i ρ[i]? ρ QO := by
  unfold WE sV LK
  generalize ρ[i]? = o
  cases o with
  | none => with_unfolding_all rfl
  | some s => cases s <;> with_unfolding_all rfl
theorem zq03 : WE (rdd o) ρ X QD = RDK (rd ρ o) ρ QD := by
  unfold WE rdd RDK; cases rd ρ o <;> with_unfolding_all rfl
theorem zq04 {q : Option Op} : WE (opt q) ρ X QO = OPK q ρ QO := by
  unfold WE opt OPK; cases q <;> with_unfolding_all rfl
theorem zq05 : WE (sP1 p1 f) ρ X QO = WE f ρ X (KB (fun o => bnd (rdd o) fun d => opt (p1 d)) X QO) := by unfold sP1; rw [zq00]
theorem zq06 : WE (sP2 p2 f1 f2) ρ X QO = WE f1 ρ X (KB (fun o1 => bnd f2 fun o2 => bnd (rdd o1) fun d => bnd (rdd o2) fun e => opt (p2 d e)) X QO) := by unfold sP2; rw [zq00]
theorem zq07 {Q : List PyData → En → Prop} : WE (rdds []) ρ X Q = Q [] ρ := nr (by with_unfolding_all rfl)
theorem zq08 {Q : List PyData → En → Prop} : WE (rdds (o :: os)) ρ X Q = WE (rdd o) ρ X (KB (fun d => bnd (rdds os) fun ds ρ' => .ok (d :: ds) ρ') X Q) := by
  have e : rdds (o :: os) = bnd (rdd o) fun d => bnd (rdds os) fun ds ρ' => .ok (d :: ds) ρ' := by funext r; with_unfolding_all rfl
  rw [e, zq00]
theorem zq09 : WE (sPN pn gs) ρ X QO = WE gs ρ X (KB (fun os => bnd (rdds os) fun ds => opt (pn ds)) X QO) := by unfold sPN; rw [zq00]
theorem zq0a : WE sNil ρ X QL = QL [] ρ := nr (by with_unfolding_all rfl)
theorem zq0b : WE (sCons f gs) ρ X QL = WE f ρ X (KB (fun o => bnd gs fun os ρ => .ok (o :: os) ρ) X QL) := by unfold sCons; rw [zq00]
theorem zq0c : WE (bl o) ρ X QB = WE (rdd o) ρ X (KB (fun d ρ => match d with | .bool b => .ok b ρ | _ => .bad) X QB) := by unfold bl; rw [zq00] <;> with_unfolding_all rfl
theorem zq0d : WE (sTest f) ρ X QB = WE f ρ X (KB (fun o => bl o) X QB) := by
  unfold sTest; rw [zq00]
  congr 1; funext o ρ1; unfold KB; rw [zq00] <;> with_unfolding_all rfl
theorem zq0e : WE (if c = true then m else m') ρ X Q = BrE c m m' ρ X Q := nr (by with_unfolding_all rfl)
theorem zq0f : WS (if c = true then a else b) ρ QS = BrS c a b ρ QS := nr (by with_unfolding_all rfl)
theorem zq0g : WE (sAnd t u) ρ X QB = WE t ρ X (KB (fun c => if c = true then u else fun ρ => .ok false ρ) X QB) := by unfold sAnd; rw [zq00]
theorem zq0h : WE (sOr t u) ρ X QB = WE t ρ X (KB (fun c => if c = true then fun ρ => .ok true ρ else u) X QB) := by unfold sOr; rw [zq00]
theorem zq0i : WE (sNot t) ρ X QB = WE t ρ X (KB (fun c ρ => .ok (!c) ρ) X QB) := by unfold sNot; rw [zq00]
theorem zq0j : WE (sAndV f1 f2) ρ X QO = WE f1 ρ X (KB (fun o => bnd (bl o) fun b => if b = true then f2 else fun ρ => .ok (.v (.bool false)) ρ) X QO) := by unfold sAndV; rw [zq00]
theorem zq0k : WE (sOrV f1 f2) ρ X QO = WE f1 ρ X (KB (fun o => bnd (bl o) fun b => if b = true then fun ρ => .ok (.v (.bool true)) ρ else f2) X QO) := by unfold sOrV; rw [zq00]
theorem zq0l : WE (sNotV f) ρ X QO = WE f ρ X (KB (fun o => bnd (bl o) fun b ρ => .ok (.v (.bool (!b))) ρ) X QO) := by unfold sNotV; rw [zq00]
theorem zq0m : WE (sIf t m m') ρ X Q = WE t ρ X (KB (fun c => if c = true then m else m') X Q) := by unfold sIf; rw [zq00]
theorem zq0n : WE (fz (.v d)) ρ X QD = QD d ρ := nr (by with_unfolding_all rfl)
theorem zq0o : WE (fz (.fr d)) ρ X QD = QD d ρ := nr (by with_unfolding_all rfl)
def FZ (i : Nat) (o : Option Sl) (ρ : En) (k : PyData → En → Prop) : Prop := match o with
  | some (.own d) => k d (ρ.set i (.val d))
  | some (.inn d) => k d (ρ.set i (.fix d))
  | some (.val d) => k d ρ
  | some (.fix d) => k d ρ
  | _ => False
theorem zq4k : FZ i (some (.own d)) ρ QD = QD d (ρ.set i (.val d)) := nr (by with_unfolding_all rfl)
theorem zq4l : FZ i (some (.inn d)) ρ QD = QD d (ρ.set i (.fix d)) := nr (by with_unfolding_all rfl)
theorem zq4m : FZ i (some (.val d)) ρ QD = QD d ρ := nr (by with_unfolding_all rfl)
theorem zq4n : FZ i (some (.fix d)) ρ QD = QD d ρ := nr (by with_unfolding_all rfl)
theorem zq0p : WE (fz (.pl i)) ρ X QD = FZ i ρ[i]? ρ QD := by
  unfold WE fz FZ
  dsimp only
  generalize ρ[i]? = o
  cases o with
  | none => with_unfolding_all rfl
  | some s => cases s with
    | own d => cases d <;> with_unfolding_all rfl
    | inn d => cases d <;> with_unfolding_all rfl
    | _ => with_unfolding_all rfl
theorem zq0q {Q : List PyData → En → Prop} : WE (fzs []) ρ X Q = Q [] ρ := nr (by with_unfolding_all rfl)
theorem zq0r {Q : List PyData → En → Prop} : WE (fzs (o :: os)) ρ X Q = WE (fz o) ρ X (KB (fun d => bnd (fzs os) fun ds ρ' => .ok (d :: ds) ρ') X Q) := by
  have e : fzs (o :: os) = bnd (fz o) fun d => bnd (fzs os) fun ds ρ' => .ok (d :: ds) ρ' := by funext r; with_unfolding_all rfl
  rw [e, zq00]
theorem zq0s : WE (sTup gs) ρ X QO = WE gs ρ X (KB (fun os => bnd (fzs os) fun ds ρ => .ok (.v (.tuple ds)) ρ) X QO) := by unfold sTup; rw [zq00]
theorem zq0t : WE (sLst gs) ρ X QO = WE gs ρ X (KB (fun os => bnd (fzs os) fun ds ρ => .ok (.fr (.list ds)) ρ) X QO) := by unfold sLst; rw [zq00]
theorem zq0u : WE sNo ρ X QN = QN none ρ := nr (by with_unfolding_all rfl)
theorem zq0v : WE (sSome f) ρ X QN = WE f ρ X (KB (fun o => bnd (rdd o) fun d ρ => match d with | .int i => .ok (some i) ρ | _ => .bad) X QN) := by unfold sSome; rw [zq00] <;> with_unfolding_all rfl
theorem zq0w : WE (sSl f l h) ρ X QO = WE f ρ X (KB (fun o => bnd l fun lo => bnd h fun hi => bnd (rdd o) fun d => opt (pSl d lo hi)) X QO) := by unfold sSl; rw [zq00]
theorem zq0x : WE (sIs isT f) ρ X QO = WE f ρ X (KB (fun o => bnd (rdd o) fun d ρ => .ok (.v (.bool (isT d))) ρ) X QO) := by unfold sIs; rw [zq00]
theorem zq0y : WE sDic0 ρ X QO = QO (.fr (.dict [])) ρ := nr (by with_unfolding_all rfl)
theorem zq0z : WE (sChain p2 p2' f1 f2 f3) ρ X QO = WE f1 ρ X (KB (fun o1 => bnd f2 fun o2 => bnd (rdd o1) fun d1 => bnd (rdd o2) fun d2 => match p2 d1 d2 with
  | some (.v (.bool true)) => bnd f3 fun o3 => bnd (rdd o2) fun d2 => bnd (rdd o3) fun d3 => opt (p2' d2 d3)
  | some (.v (.bool false)) => fun ρ => .ok (.v (.bool false)) ρ
  | _ => fun _ => .bad) X QO) := by unfold sChain; rw [zq00] <;> with_unfolding_all rfl
/-! calls -/
@[irreducible] def CALL (fs : En → Res Op) (ps : Option En) (c : Bool) (os : List Op) (ρ : En) (X : XQ) (Q : Op → En → Prop) : Prop := match ps, c with
  | some ps, true => FE fs ps nX fun o outs => match o with
    | .v d => Q (.v d) (back os outs ρ)
    | .fr d => Q (.fr d) (back os outs ρ)
    | .pl _ => False
  | _, _ => False
def CQ (os : List Op) (ρ : En) (Q : Op → En → Prop) : Op → En → Prop := fun o outs => match o with
  | .v d => Q (.v d) (back os outs ρ)
  | .fr d => Q (.fr d) (back os outs ρ)
  | .pl _ => False
theorem cq_v {outs : En} : CQ os ρ QO (.v d) outs = QO (.v d) (back os outs ρ) := nr (by with_unfolding_all rfl)
theorem zq13 {outs : En} : CQ os ρ QO (.fr d) outs = QO (.fr d) (back os outs ρ) := nr (by with_unfolding_all rfl)
theorem zq4o {ps : En} : CALL fs (some ps) true os ρ X QO = FE fs ps nX (CQ os ρ QO) := nr (by with_unfolding_all rfl)
theorem zq10 : WE (sCall fs gs) ρ X QO = WE gs ρ X (KB (callF fs) X QO) := by unfold sCall; rw [zq00]
theorem zq11 : WE (sCall0 fs) ρ X QO = WE (callF fs []) ρ X QO := nr (by with_unfolding_all rfl)
theorem zq12 : WE (callF fs os) ρ X QO = CALL fs (zq6w ρ os) (ndN (zq6x os)) os ρ X QO := by
  unfold WE callF CALL
  cases zq6w ρ os with
  | none => with_unfolding_all rfl
  | some ps =>
    cases ndN (zq6x os) with
    | false => with_unfolding_all rfl
    | true =>
      simp only [if_true]
      unfold FE WE
      cases fs ps with
      | ok o outs => cases o <;> with_unfolding_all rfl
      | exc c r => with_unfolding_all rfl
      | bad => with_unfolding_all rfl
theorem fe_of {args outs : En} (h : f args = .ok o outs) : FE f args X QO = QO o outs := by unfold FE WE; rw [h]
theorem of_fe {args : En} (h : FE f args nX QO) : ∃ o outs, f args = .ok o outs ∧ QO o outs := by
  unfold FE WE at h
  cases q : f args with
  | ok o outs => rw [q] at h; exact ⟨o, outs, rfl, h⟩
  | exc c r => rw [q] at h; with_unfolding_all exact h.elim
  | bad => rw [q] at h; with_unfolding_all exact h.elim
theorem eq_fe {args outs : En} (h : FE f args nX fun o' outs' => o' = o ∧ outs' = outs) : f args = .ok o outs := by
  obtain ⟨o', outs', e, rfl, rfl⟩ := of_fe h
  exact e
theorem fe_runF {args : En} : FE (runF n b) args nX QO = WS b (args ++ List.replicate (n - args.length) .no) (FIN args nX QO) := by
  unfold FE WE WS runF FIN
  generalize b (args ++ List.replicate (n - args.length) .no) = o
  cases o with
  | rt r ρ => cases r <;> with_unfolding_all rfl
  | _ => with_unfolding_all rfl
theorem fe_imp {args : En} {Q' : Op → En → Prop} (h : FE f args X QO) (hq : ∀ o outs, QO o outs → Q' o outs) : FE f args X Q' := by
  unfold FE WE at *
  cases q : f args with
  | ok o outs => rw [q] at h; with_unfolding_all exact hq _ _ h
  | exc c r => rw [q] at h; with_unfolding_all exact h
  | bad => rw [q] at h; with_unfolding_all exact h
theorem zq14 {args : En} : FIN args X QO (.rt (.v d) ρ) = QO (.v d) (zq70 args ρ) := nr (by with_unfolding_all rfl)
theorem zq15 {args : En} : FIN args X QO (.rt (.fr d) ρ) = QO (.fr d) (zq70 args ρ) := nr (by with_unfolding_all rfl)
theorem zq16 {args : En} : FIN args X QO (.nx ρ) = QO (.v .none) (zq70 args ρ) := nr (by with_unfolding_all rfl)
/-! what is walked -/
theorem zq17 : WE (sItr f) ρ X QI = WE f ρ X (KB itO X QI) := by unfold sItr; rw [zq00]
theorem zq18 : WE (itO (.v (.list ds))) ρ X QI = QI (ds, []) ρ := nr (by with_unfolding_all rfl)
theorem zq19 : WE (itO (.v (.tuple ds))) ρ X QI = QI (ds, []) ρ := nr (by with_unfolding_all rfl)
theorem zq1a : WE (itO (.fr (.list ds))) ρ X QI = QI (ds, [.fr (.list ds)]) ρ := nr (by with_unfolding_all rfl)
def ITP (i : Nat) (o : Option Sl) (ρ : En) (Q : List PyData × List Op → En → Prop) : Prop := match o with
  | some (.own (.list ds)) => Q (ds, [.pl i]) ρ
  | some (.inn (.list ds)) => Q (ds, [.pl i]) ρ
  | some (.bor (.list ds)) => Q (ds, [.pl i]) ρ
  | _ => False
theorem zq4p : ITP i (some (.own (.list ds))) ρ QI = QI (ds, [.pl i]) ρ := nr (by with_unfolding_all rfl)
theorem zq4q : ITP i (some (.inn (.list ds))) ρ QI = QI (ds, [.pl i]) ρ := nr (by with_unfolding_all rfl)
theorem zq4r : ITP i (some (.bor (.list ds))) ρ QI = QI (ds, [.pl i]) ρ := nr (by with_unfolding_all rfl)
theorem zq1b : WE (itO (.pl i)) ρ X QI = ITP i ρ[i]? ρ QI := by
  unfold WE itO ITP
  dsimp only
  generalize ρ[i]? = o
  cases o with
  | none => with_unfolding_all rfl
  | some s => cases s with
    | own d => cases d <;> with_unfolding_all rfl
    | inn d => cases d <;> with_unfolding_all rfl
    | bor d => cases d <;> with_unfolding_all rfl
    | _ => with_unfolding_all rfl
theorem zq1c : WE (sEnum f) ρ X QI = WE (sItr f) ρ X (KB (fun p ρ => .ok (enumD 0 p.1, p.2) ρ) X QI) := by unfold sEnum; rw [zq00]
def ZPK (o : Option (List PyData)) (ρ : En) (Q : List PyData × List Op → En → Prop) : Prop := match o with
  | some zs => Q (zs, []) ρ
  | none => False
theorem zpk : ZPK (some ds) ρ QI = QI (ds, []) ρ := nr (by with_unfolding_all rfl)
def KZ (Q : List PyData × List Op → En → Prop) : List PyData → En → Prop := fun ds ρ => ZPK (zipP ds) ρ Q
theorem kz : KZ QI ds ρ = ZPK (zipP ds) ρ QI := nr (by with_unfolding_all rfl)
def KZ0 (X : XQ) (Q : List PyData × List Op → En → Prop) : List Op → En → Prop := fun os ρ => WE (fzs os) ρ X (KZ Q)
theorem kz0 : KZ0 X QI os ρ = WE (fzs os) ρ X (KZ QI) := nr (by with_unfolding_all rfl)
theorem zq1d : WE (sZip gs) ρ X QI = WE gs ρ X (KZ0 X QI) := by
  unfold sZip; rw [zq00]
  congr 1; funext os ρ1; unfold KB KZ0; rw [zq00]
  congr 1; funext ds ρ2; unfold KB KZ WE ZPK
  dsimp only
  generalize zipP ds = o
  cases o <;> with_unfolding_all rfl
/-- range(n) -/
@[irreducible] def RG (j : Int) (ρ : En) (Q : List PyData × List Op → En → Prop) : Prop := (-(2 ^ 62) ≤ j ∧ j < 2 ^ 62) ∧ Q (rng 0 j.toNat, []) ρ
@[irreducible] def RG2 (i j : Int) (ρ : En) (Q : List PyData × List Op → En → Prop) : Prop := (-(2 ^ 62) ≤ i ∧ i < 2 ^ 62 ∧ -(2 ^ 62) ≤ j ∧ j < 2 ^ 62) ∧ Q (rng i (j - i).toNat, []) ρ
def KR1 (Q : List PyData × List Op → En → Prop) : List PyData → En → Prop := fun ds ρ => match ds with
  | [.int j] => RG j ρ Q
  | _ => False
def KR2 (Q : List PyData × List Op → En → Prop) : List PyData → En → Prop := fun ds ρ => match ds with
  | [.int i, .int j] => RG2 i j ρ Q
  | _ => False
def KRA (K : List PyData → En → Prop) (X : XQ) : List Op → En → Prop := fun os ρ => WE (rdds os) ρ X K
theorem kra {K : List PyData → En → Prop} : KRA K X os ρ = WE (rdds os) ρ X K := nr (by with_unfolding_all rfl)
theorem kr1 {j : Int} : KR1 QI [.int j] ρ = RG j ρ QI := nr (by with_unfolding_all rfl)
theorem kr2 {i j : Int} : KR2 QI [.int i, .int j] ρ = RG2 i j ρ QI := nr (by with_unfolding_all rfl)
theorem zq1f : WE (sRng1 gs) ρ X QI = WE gs ρ X (KRA (KR1 QI) X) := by
  unfold sRng1; rw [zq00]
  congr 1; funext os ρ1; unfold KB KRA; rw [zq00]
  congr 1; funext ds ρ2; unfold KB KR1 RG
  dsimp only
  by_cases hd : ∃ j, ds = [.int j]
  · obtain ⟨j, rfl⟩ := hd
    dsimp only
    by_cases hb : -(2 ^ 62) ≤ j ∧ j < 2 ^ 62
    · unfold WE; dsimp only; rw [if_pos hb]; exact (true_and _).symm.trans (by rw [show (True : Prop) = (-(2 ^ 62) ≤ j ∧ j < 2 ^ 62) from (eq_true hb).symm])
    · unfold WE; dsimp only; rw [if_neg hb]; exact ((false_and _).symm.trans (by rw [show (False : Prop) = (-(2 ^ 62) ≤ j ∧ j < 2 ^ 62) from (eq_false hb).symm]))
  · unfold WE
    split
    · split at *
      · rename_i j _; exact absurd ⟨j, rfl⟩ hd
      · rename_i h; cases h
    · split at *
      · rename_i j _; exact absurd ⟨j, rfl⟩ hd
      · rename_i h; cases h
    · split
      · rename_i j _; exact absurd ⟨j, rfl⟩ hd
      · with_unfolding_all rfl
theorem zq1g : WE (sRng2 gs) ρ X QI = WE gs ρ X (KRA (KR2 QI) X) := by
  unfold sRng2; rw [zq00]
  congr 1; funext os ρ1; unfold KB KRA; rw [zq00]
  congr 1; funext ds ρ2; unfold KB KR2 RG2
  dsimp only
  by_cases hd : ∃ i j, ds = [.int i, .int j]
  · obtain ⟨i, j, rfl⟩ := hd
    dsimp only
    by_cases hb : -(2 ^ 62) ≤ i ∧ i < 2 ^ 62 ∧ -(2 ^ 62) ≤ j ∧ j < 2 ^ 62
    · unfold WE; dsimp only; rw [if_pos hb]; exact (true_and _).symm.trans (by rw [show (True : Prop) = (-(2 ^ 62) ≤ i ∧ i < 2 ^ 62 ∧ -(2 ^ 62) ≤ j ∧ j < 2 ^ 62) from (eq_true hb).symm])
    · unfold WE; dsimp only; rw [if_neg hb]; exact ((false_and _).symm.trans (by rw [show (False : Prop) = (-(2 ^ 62) ≤ i ∧ i < 2 ^ 62 ∧ -(2 ^ 62) ≤ j ∧ j < 2 ^ 62) from (eq_false hb).symm]))
  · unfold WE
    split
    · split at *
      · rename_i i j _; exact absurd ⟨i, j, rfl⟩ hd
      · rename_i h; cases h
    · split at *
      · rename_i i j _; exact absurd ⟨i, j, rfl⟩ hd
      · rename_i h; cases h
    · split
      · rename_i i j _; exact absurd ⟨i, j, rfl⟩ hd
      · with_unfolding_all rfl
theorem rg_nat {M : Nat} (h : M < 1000000000) (q : QI (rng 0 M, []) ρ) : RG (M : Int) ρ QI := by
  unfold RG
  exact ⟨by omega, by rw [Int.toNat_natCast]; exact q⟩
theorem rg_lit {M : Nat} (h : M < 1000000000) : RG (no_index (OfNat.ofNat M)) ρ QI = QI (rng 0 M, []) ρ := by
  unfold RG
  refine propext ⟨fun h => ?_, fun q => ⟨?_, ?_⟩⟩
  · have := h.2; with_unfolding_all exact this
  · show -(2 ^ 62) ≤ (M : Int) ∧ (M : Int) < 2 ^ 62; omega
  · with_unfolding_all exact q
theorem rg_of {j : Int} (M : Nat) (e : j = M) (h : M < 1000000000) (q : QI (rng 0 M, []) ρ) : RG j ρ QI := by subst e; exact rg_nat h q
theorem rg2_of {i j : Int} (A M : Nat) (e : i = A) (e2 : j = M) (h : A < 1000000000) (h2 : M < 1000000000) (q : QI (rng A (M - A), []) ρ) : RG2 i j ρ QI := by
  subst e e2
  unfold RG2
  refine ⟨by omega, ?_⟩
  rw [show ((M : Int) - (A : Int)).toNat = M - A by omega]
  exact q
/-! statements -/
theorem zq1i : WS (seqS a b) ρ QS = WS a ρ (sq b QS) := by
  unfold WS seqS sq; try dsimp only
  generalize a ρ = o; cases o <;> with_unfolding_all rfl
theorem zq1j : sq b QS (.nx ρ) = WS b ρ QS := nr (by with_unfolding_all rfl)
theorem zq1k : sq b QS (.rt o ρ) = QS (.rt o ρ) := nr (by with_unfolding_all rfl)
theorem zq1l : sq b QS (.bk ρ) = QS (.bk ρ) := nr (by with_unfolding_all rfl)
theorem zq1m : sq b QS (.ct ρ) = QS (.ct ρ) := nr (by with_unfolding_all rfl)
theorem zq1n {c : Str} : sq b QS (.exc c ρ) = QS (.exc c ρ) := nr (by with_unfolding_all rfl)
theorem zq1o : WS (kill vs a) ρ QS = WS a ρ (kq vs QS) := by
  unfold WS kill kq; try dsimp only
  generalize a ρ = o; cases o <;> with_unfolding_all rfl
theorem zq1p : kq vs QS (.nx ρ) = QS (.nx (clr vs ρ)) := nr (by with_unfolding_all rfl)
theorem zq1q : kq vs QS (.ct ρ) = QS (.ct (clr vs ρ)) := nr (by with_unfolding_all rfl)
theorem zq1r : kq vs QS (.bk ρ) = QS (.bk (clr vs ρ)) := nr (by with_unfolding_all rfl)
theorem zq1s : kq vs QS (.rt o ρ) = QS (.rt o ρ) := nr (by with_unfolding_all rfl)
theorem zq1t {c : Str} : kq vs QS (.exc c ρ) = QS (.exc c ρ) := nr (by with_unfolding_all rfl)
theorem zq4s : clr [] ρ = ρ := nr (by with_unfolding_all rfl)
theorem zq4t : clr (i :: vs) ρ = clr vs (clr1 i ρ) := nr (by with_unfolding_all rfl)
theorem zq4u {s : Sl} : clr1 (n + 1) (s :: ρ) = s :: clr1 n ρ := by
  unfold clr1
  simp only [List.getElem?_cons_succ, List.set_cons_succ]
  cases ρ[n]? with
  | none => with_unfolding_all rfl
  | some x => simp only; split <;> with_unfolding_all rfl
theorem zq4v : clr1 0 (.no :: ρ) = .no :: ρ := nr (by with_unfolding_all rfl)
theorem zq4w : clr1 0 (.val d :: ρ) = .no :: ρ := nr (by with_unfolding_all rfl)
theorem zq4x : clr1 0 (.own d :: ρ) = .no :: ρ := nr (by with_unfolding_all rfl)
theorem zq4y : clr1 0 (.inn d :: ρ) = .inn d :: ρ := nr (by with_unfolding_all rfl)
theorem zq4z : clr1 0 (.bor d :: ρ) = .bor d :: ρ := nr (by with_unfolding_all rfl)
theorem zq50 : clr1 0 (.fix d :: ρ) = .fix d :: ρ := nr (by with_unfolding_all rfl)
theorem zq1u : WS sNext ρ QS = QS (.nx ρ) := nr (by with_unfolding_all rfl)
theorem zq1v : WS sBrk ρ QS = QS (.bk ρ) := nr (by with_unfolding_all rfl)
theorem zq1w : WS sCnt ρ QS = QS (.ct ρ) := nr (by with_unfolding_all rfl)
theorem zq1x : WS sRetN ρ QS = QS (.rt (.v .none) ρ) := nr (by with_unfolding_all rfl)
theorem zq1y : WS (fun ρ => .nx ρ) ρ QS = QS (.nx ρ) := nr (by with_unfolding_all rfl)
theorem zq1z : WS Out.nx ρ QS = QS (.nx ρ) := nr (by with_unfolding_all rfl)
theorem zq20 {k : α → En → Out} : WS (andS m k) ρ QS = WE m ρ (XS QS) (KS k QS) := by
  unfold WE KS XS andS; unfold WS; dsimp only; generalize m ρ = o; cases o <;> with_unfolding_all rfl
theorem ks {k : α → En → Out} {x : α} : KS k QS x ρ = WS (k x) ρ QS := nr (by with_unfolding_all rfl)
theorem zq21 {m : En → Res Unit} : WS (unS m) ρ QS = WE m ρ (XS QS) (KS (fun _ ρ => .nx ρ) QS) := by unfold unS; rw [zq20]
theorem zq22 : WS (sAsg i f) ρ QS = WS (unS (bnd f (put i))) ρ QS := nr (by with_unfolding_all rfl)
def PT (i : Nat) (o : Option Sl) (s : Sl) (ρ : En) (Q : Unit → En → Prop) : Prop := match o with
  | some .no => Q () (ρ.set i s)
  | some (.val _) => Q () (ρ.set i s)
  | some (.own _) => Q () (ρ.set i s)
  | _ => False
theorem zq51 {s : Sl} : PT i (some .no) s ρ QU = QU () (ρ.set i s) := nr (by with_unfolding_all rfl)
theorem zq52 {s : Sl} : PT i (some (.val d)) s ρ QU = QU () (ρ.set i s) := nr (by with_unfolding_all rfl)
theorem zq53 {s : Sl} : PT i (some (.own d)) s ρ QU = QU () (ρ.set i s) := nr (by with_unfolding_all rfl)
theorem zq23 : WE (put i (.v d)) ρ X QU = PT i ρ[i]? (.val d) ρ QU := by
  unfold WE put PT
  try dsimp only
  generalize ρ[i]? = o
  cases o with
  | none => with_unfolding_all rfl
  | some s => cases s <;> with_unfolding_all rfl
theorem zq24 : WE (put i (.fr d)) ρ X QU = PT i ρ[i]? (.own d) ρ QU := by
  unfold WE put PT
  try dsimp only
  generalize ρ[i]? = o
  cases o with
  | none => with_unfolding_all rfl
  | some s => cases s <;> with_unfolding_all rfl
theorem zq25 : WE (put i (.pl j)) ρ X QU = WE (fz (.pl j)) ρ X (KB (fun d => put i (.v d)) X QU) := by
  have e : WE (put i (.pl j)) ρ X QU = WE (bnd (fz (.pl j)) fun d => put i (.v d)) ρ X QU := nr (by with_unfolding_all rfl)
  rw [e, zq00]
theorem zq26 : WS (sRet f) ρ QS = WE f ρ (XS QS) (KS rtO QS) := by unfold sRet; rw [zq20]
theorem zq27 : WS (rtO (.v d)) ρ QS = QS (.rt (.v d) ρ) := nr (by with_unfolding_all rfl)
theorem zq28 : WS (rtO (.fr d)) ρ QS = QS (.rt (.fr d) ρ) := nr (by with_unfolding_all rfl)
def RTP (i : Nat) (o : Option Sl) (ρ : En) (Q : Out → Prop) : Prop := match o with
  | some (.own d) => Q (.rt (.fr d) (ρ.set i .no))
  | some (.inn (.list ds)) => Q (.rt (.v (.list ds)) (ρ.set i (.fix (.list ds))))
  | some (.val d) => Q (.rt (.v d) ρ)
  | some (.fix d) => Q (.rt (.v d) ρ)
  | _ => False
theorem zq54 : RTP i (some (.own d)) ρ QS = QS (.rt (.fr d) (ρ.set i .no)) := nr (by with_unfolding_all rfl)
theorem zq55 : RTP i (some (.inn (.list ds))) ρ QS = QS (.rt (.v (.list ds)) (ρ.set i (.fix (.list ds)))) := nr (by with_unfolding_all rfl)
theorem zq29 : WS (rtO (.pl i)) ρ QS = RTP i ρ[i]? ρ QS := by
  unfold WS rtO RTP
  dsimp only
  generalize ρ[i]? = o
  cases o with
  | none => with_unfolding_all rfl
  | some s => cases s with
    | inn d => cases d <;> with_unfolding_all rfl
    | _ => with_unfolding_all rfl
theorem zq2a : WS (sDrop f) ρ QS = WE f ρ (XS QS) (KS (fun _ ρ => .nx ρ) QS) := by unfold sDrop; rw [zq20]
theorem zq2b : WS (sIfS t a b) ρ QS = WE t ρ (XS QS) (KS (fun c => if c = true then a else b) QS) := by unfold sIfS; rw [zq20]
theorem zq2c : WS (sAsgT g f) ρ QS = WS (unS (bnd f fun o => bnd (fz o) g)) ρ QS := nr (by with_unfolding_all rfl)
theorem zq2d : WE (gN i d) ρ X QU = WE (put i (.v d)) ρ X QU := nr (by with_unfolding_all rfl)
def GT (c : Bool) (gl : List PyData → En → Res Unit) (ds : List PyData) (ρ : En) (X : XQ) (Q : Unit → En → Prop) : Prop := if c = true then WE (gl ds) ρ X Q else False
theorem gt_t : GT true gl ds ρ X QU = WE (gl ds) ρ X QU := nr (by with_unfolding_all rfl)
theorem zq2e : WE (gT n gl (.tuple ds)) ρ X QU = GT (ds.length == n) gl ds ρ X QU := by
  unfold WE GT
  rw [gT_ap]
  by_cases hl : ds.length = n
  · rw [if_pos hl, if_pos (by simp [hl])]; with_unfolding_all rfl
  · rw [if_neg hl, if_neg (by simp [hl])]
theorem zq2f : WE (gL n gl (.list ds)) ρ X QU = GT (ds.length == n) gl ds ρ X QU := by
  unfold WE GT
  have e : gL n gl (.list ds) ρ = if ds.length = n then gl ds ρ else .bad := by
    show (if ds.length = n then gl ds else fun _ => .bad) ρ = _
    split <;> with_unfolding_all rfl
  rw [e]
  by_cases hl : ds.length = n
  · rw [if_pos hl, if_pos (by simp [hl])]; with_unfolding_all rfl
  · rw [if_neg hl, if_neg (by simp [hl])]
theorem zq2g : WE (gCn g gl (d :: ds)) ρ X QU = WE (g d) ρ X (KB (fun _ => gl ds) X QU) := by
  have e : gCn g gl (d :: ds) = bnd (g d) fun _ => gl ds := nr (by with_unfolding_all rfl)
  rw [e, zq00]
theorem zq2h : WE (gNl []) ρ X QU = QU () ρ := nr (by with_unfolding_all rfl)
theorem zq2i : WS (sPar i j gs) ρ QS = WE gs ρ (XS QS) (KS (fun os => andS (fzs os) fun ds => match ds with | [d, e] => unS (bnd (gN i d) fun _ => gN j e) | _ => fun _ => .bad) QS) := by unfold sPar; rw [zq20] <;> with_unfolding_all rfl
def VLK (o : Option Sl) (ρ : En) (Q : Unit → En → Prop) : Prop := match o with
  | some (.own (.list _)) => Q () ρ
  | some (.inn (.list _)) => Q () ρ
  | _ => False
theorem zq56 : VLK (some (.own (.list ds))) ρ QU = QU () ρ := nr (by with_unfolding_all rfl)
theorem zq57 : VLK (some (.inn (.list ds))) ρ QU = QU () ρ := nr (by with_unfolding_all rfl)
theorem zq2j : WE (sVL j) ρ X QU = VLK ρ[j]? ρ QU := by
  unfold WE sVL VLK
  try dsimp only
  generalize ρ[j]? = o
  cases o with
  | none => with_unfolding_all rfl
  | some s => cases s with
    | own d => cases d <;> with_unfolding_all rfl
    | inn d => cases d <;> with_unfolding_all rfl
    | _ => with_unfolding_all rfl
def MP (j : Nat) (o : Option Sl) (p : List PyData → Option (PyData × List PyData)) (ρ : En) (Q : Op → En → Prop) : Prop := match o with
  | some (.own (.list ds)) => (match p ds with | some (r, ds') => Q (.v r) (ρ.set j (.own (.list ds'))) | none => False)
  | some (.inn (.list ds)) => (match p ds with | some (r, ds') => Q (.v r) (ρ.set j (.inn (.list ds'))) | none => False)
  | _ => False
def MPo (j : Nat) (o : Option (PyData × List PyData)) (ρ : En) (Q : Op → En → Prop) : Prop := match o with
  | some (r, ds) => Q (.v r) (ρ.set j (.own (.list ds)))
  | none => False
def MPi (j : Nat) (o : Option (PyData × List PyData)) (ρ : En) (Q : Op → En → Prop) : Prop := match o with
  | some (r, ds) => Q (.v r) (ρ.set j (.inn (.list ds)))
  | none => False
theorem mpo {r : PyData} : MPo j (some (r, ds)) ρ QO = QO (.v r) (ρ.set j (.own (.list ds))) := nr (by with_unfolding_all rfl)
theorem mpi {r : PyData} : MPi j (some (r, ds)) ρ QO = QO (.v r) (ρ.set j (.inn (.list ds))) := nr (by with_unfolding_all rfl)
theorem zq58 {p : List PyData → Option (PyData × List PyData)} : MP j (some (.own (.list ds))) p ρ QO = MPo j (p ds) ρ QO := by
  unfold MP MPo; with_unfolding_all rfl
theorem zq59 {p : List PyData → Option (PyData × List PyData)} : MP j (some (.inn (.list ds))) p ρ QO = MPi j (p ds) ρ QO := by
  unfold MP MPi; with_unfolding_all rfl
theorem zq2k {p : List PyData → Option (PyData × List PyData)} : WE (mutP j p) ρ X QO = MP j ρ[j]? p ρ QO := by
  unfold WE mutP MP
  try dsimp only
  generalize ρ[j]? = o
  cases o with
  | none => with_unfolding_all rfl
  | some s => cases s with
    | own d => cases d with
      | list ds => dsimp only; generalize p ds = o; cases o <;> with_unfolding_all rfl
      | _ => with_unfolding_all rfl
    | inn d => cases d with
      | list ds => dsimp only; generalize p ds = o; cases o <;> with_unfolding_all rfl
      | _ => with_unfolding_all rfl
    | _ => with_unfolding_all rfl
theorem zq2l {p : List PyData → List PyData → Option (PyData × List PyData)} : WE (sMt j p gs) ρ X QO = WE (sVL j) ρ X (KB (fun _ => bnd gs fun os => bnd (fzs os) fun args => mutP j fun ds => p ds args) X QO) := by unfold sMt; rw [zq00]
theorem zq2m : WE (sExt j f) ρ X QO = WE (sVL j) ρ X (KB (fun _ => bnd f fun o => match o with | .fr (.list es) => mutP j fun ds => if ds.length + es.length ≤ sizeLine then some (.none, ds ++ es) else none | _ => fun _ => .bad) X QO) := by unfold sExt; rw [zq00] <;> with_unfolding_all rfl
def MS (j : Nat) (o : Option Sl) (p : List PyData → Option (List PyData)) (ρ : En) (Q : Unit → En → Prop) : Prop := match o with
  | some (.own (.list ds)) => (match p ds with | some ds' => Q () (ρ.set j (.own (.list ds'))) | none => False)
  | some (.inn (.list ds)) => (match p ds with | some ds' => Q () (ρ.set j (.inn (.list ds'))) | none => False)
  | _ => False
def MSo (j : Nat) (o : Option (List PyData)) (ρ : En) (Q : Unit → En → Prop) : Prop := match o with
  | some ds => Q () (ρ.set j (.own (.list ds)))
  | none => False
def MSi (j : Nat) (o : Option (List PyData)) (ρ : En) (Q : Unit → En → Prop) : Prop := match o with
  | some ds => Q () (ρ.set j (.inn (.list ds)))
  | none => False
theorem mso : MSo j (some ds) ρ QU = QU () (ρ.set j (.own (.list ds))) := nr (by with_unfolding_all rfl)
theorem msi : MSi j (some ds) ρ QU = QU () (ρ.set j (.inn (.list ds))) := nr (by with_unfolding_all rfl)
theorem zq5a {p : List PyData → Option (List PyData)} : MS j (some (.own (.list ds))) p ρ QU = MSo j (p ds) ρ QU := by
  unfold MS MSo; with_unfolding_all rfl
theorem zq5b {p : List PyData → Option (List PyData)} : MS j (some (.inn (.list ds))) p ρ QU = MSi j (p ds) ρ QU := by
  unfold MS MSi; with_unfolding_all rfl
theorem zq2n {p : List PyData → Option (List PyData)} : WE (mutS j p) ρ X QU = MS j ρ[j]? p ρ QU := by
  unfold WE mutS MS
  try dsimp only
  generalize ρ[j]? = o
  cases o with
  | none => with_unfolding_all rfl
  | some s => cases s with
    | own d => cases d with
      | list ds => dsimp only; generalize p ds = o; cases o <;> with_unfolding_all rfl
      | _ => with_unfolding_all rfl
    | inn d => cases d with
      | list ds => dsimp only; generalize p ds = o; cases o <;> with_unfolding_all rfl
      | _ => with_unfolding_all rfl
    | _ => with_unfolding_all rfl
theorem zq2o : WS (sSet j f1 f2) ρ QS = WS (unS (bnd f2 fun o => bnd (fz o) fun d => bnd (sVL j) fun _ => bnd f1 fun oi => bnd (rdd oi) fun k => mutS j (setP k d))) ρ QS := nr (by with_unfolding_all rfl)
theorem zq2p {p : Int → Int → Int} : WS (sAug j p f) ρ QS = WS (unS (bnd (sV j) fun o => bnd f fun o2 => bnd (rdd o) fun a => bnd (rdd o2) fun b => match a, b with
  | .int a, .int b => put j (.v (.int (p a b)))
  | _, _ => fun _ => .bad)) ρ QS := nr (by with_unfolding_all rfl)
/-! loops -/
@[irreducible] def FOR (ps : List Nat) (g : PyData → En → Res Unit) (b : En → Out) (ds : List PyData) (ρ : En) (Q : Out → Prop) : Prop := WS (lentS ps (forGo g b ds)) ρ Q
theorem for0 : FOR [] g b ds ρ QS = WF g b ds ρ QS := nr (by with_unfolding_all rfl)
theorem for1 : FOR (i :: ps) g b ds ρ QS = WF g b ds (inE (i :: ps) [] 0 ρ) (mq (i :: ps) ρ QS) := by
  unfold FOR WS WF lentS mq
  dsimp only
  generalize forGo g b ds (inE (i :: ps) [] 0 ρ) = o
  cases o <;> with_unfolding_all rfl
def KF (g : PyData → En → Res Unit) (b : En → Out) (Q : Out → Prop) : List PyData × List Op → En → Prop := fun p ρ => FOR (zq6x p.2) g b p.1 ρ Q
theorem kf : KF g b QS (ds, os) ρ = FOR (zq6x os) g b ds ρ QS := nr (by with_unfolding_all rfl)
theorem zq2q : WS (sFor it g b) ρ QS = WE it ρ (XS QS) (KF g b QS) := by
  unfold sFor; rw [zq20] <;> with_unfolding_all rfl
theorem zq2r : mq ps ρ QS (.nx ρ') = QS (.nx (outE ps [] 0 ρ ρ')) := nr (by with_unfolding_all rfl)
theorem zq2s : mq ps ρ QS (.rt o ρ') = QS (.rt o (outE ps [] 0 ρ ρ')) := nr (by with_unfolding_all rfl)
theorem zq2t : WF g b [] ρ QS = QS (.nx ρ) := nr (by with_unfolding_all rfl)
theorem wf_cons (h : TURN g b d ρ (NF g b ds QS) QS) : WF g b (d :: ds) ρ QS := by
  unfold WF
  unfold TURN WE TB WS at h
  unfold forGo
  cases q : g d ρ with
  | bad => rw [q] at h; with_unfolding_all exact h.elim
  | exc c r => rw [q] at h; with_unfolding_all exact h.elim
  | ok x ρ1 =>
    rw [q] at h
    simp only [] at h ⊢
    cases q2 : b ρ1 with
    | nx ρ2 => rw [q2] at h; with_unfolding_all exact h
    | ct ρ2 => rw [q2] at h; with_unfolding_all exact h
    | bk ρ2 => rw [q2] at h; with_unfolding_all exact h
    | rt r ρ2 => rw [q2] at h; with_unfolding_all exact h
    | rd r ρ2 => rw [q2] at h; with_unfolding_all exact h
    | exc c ρ2 => rw [q2] at h; with_unfolding_all exact h
    | bad => rw [q2] at h; with_unfolding_all exact h
theorem turn : TURN g b d ρ N QS = WE (g d) ρ nX (TB b N QS) := nr (by with_unfolding_all rfl)
theorem tb {x : Unit} : TB b N QS x ρ = WS b ρ (TQ N QS) := nr (by with_unfolding_all rfl)
theorem zq2u : TQ N QS (.nx ρ) = N ρ := nr (by with_unfolding_all rfl)
theorem zq2v : TQ N QS (.ct ρ) = N ρ := nr (by with_unfolding_all rfl)
theorem zq2w : TQ N QS (.bk ρ) = QS (.nx ρ) := nr (by with_unfolding_all rfl)
theorem zq2x : TQ N QS (.rt o ρ) = QS (.rt o ρ) := nr (by with_unfolding_all rfl)
theorem zq2y {c : Str} : TQ N QS (.exc c ρ) = QS (.exc c ρ) := nr (by with_unfolding_all rfl)
theorem nf : NF g b ds QS ρ = WF g b ds ρ QS := nr (by with_unfolding_all rfl)
/-- a loop over things of one kind, by what holds of the part gone -/
theorem wf_inv {γ : Type} (enc : γ → PyData) (xs : List γ) (P : List γ → En → Prop) (h : ∀ pre x post, pre ++ x :: post = xs → ∀ ρ, P pre ρ → TURN g b (enc x) ρ (P (pre ++ [x])) QS) (hq : ∀ ρ, P xs ρ → QS (.nx ρ)) (h0 : P [] ρ) : WF g b (xs.map enc) ρ QS := by
  suffices H : ∀ (post pre : List γ) (ρ : En), pre ++ post = xs → P pre ρ → WF g b (post.map enc) ρ QS from H xs [] ρ rfl h0
  intro post
  induction post with
  | nil => intro pre ρ e p; rw [List.append_nil] at e; subst e; with_unfolding_all exact hq ρ p
  | cons x post ih =>
    intro pre ρ e p
    rw [List.map_cons]
    refine wf_cons ?_
    have := h pre x post e ρ p
    unfold TURN WE at *
    cases q : g (enc x) ρ with
    | bad => rw [q] at this; with_unfolding_all exact this
    | exc c r => rw [q] at this; with_unfolding_all exact this
    | ok y ρ1 =>
      rw [q] at this
      simp only [] at this ⊢
      unfold TB WS at *
      cases q2 : b ρ1 with
      | nx ρ2 => rw [q2] at this; with_unfolding_all exact ih (pre ++ [x]) ρ2 (by rw [List.append_assoc]; exact e) this
      | ct ρ2 => rw [q2] at this; with_unfolding_all exact ih (pre ++ [x]) ρ2 (by rw [List.append_assoc]; exact e) this
      | bk ρ2 => rw [q2] at this; with_unfolding_all exact this
      | rt r ρ2 => rw [q2] at this; with_unfolding_all exact this
      | rd r ρ2 => rw [q2] at this; with_unfolding_all exact this
      | exc c ρ2 => rw [q2] at this; with_unfolding_all exact this
      | bad => rw [q2] at this; with_unfolding_all exact this
/-- a loop that keeps P -/
theorem wf_all {γ : Type} (enc : γ → PyData) (xs : List γ) (P : En → Prop) (h : ∀ x ∈ xs, ∀ ρ, P ρ → TURN g b (enc x) ρ P QS) (hq : ∀ ρ, P ρ → QS (.nx ρ)) (h0 : P ρ) : WF g b (xs.map enc) ρ QS :=
  wf_inv enc xs (fun _ ρ => P ρ) (fun pre x post e ρ p => h x (by rw [← e]; simp) ρ p) hq h0
/-- a loop that folds -/
theorem wf_fold {γ τ : Type} (enc : γ → PyData) (S : τ → En) (F : τ → γ → τ) : ∀ (xs : List γ) (s : τ), (∀ x ∈ xs, ∀ s, TURN g b (enc x) (S s) (fun ρ => ρ = S (F s x)) QS) → QS (.nx (S (xs.foldl F s))) → WF g b (xs.map enc) (S s) QS
  | [], s, _, q => by with_unfolding_all exact q
  | x :: xs, s, h, q => by
    rw [List.map_cons]
    refine wf_cons ?_
    have := h x List.mem_cons_self s
    have ih := wf_fold enc S F xs (F s x) (fun y m => h y (List.mem_cons_of_mem _ m)) q
    unfold TURN WE at *
    cases q : g (enc x) (S s) with
    | bad => rw [q] at this; with_unfolding_all exact this
    | exc c r => rw [q] at this; with_unfolding_all exact this
    | ok y ρ1 =>
      rw [q] at this
      simp only [] at this ⊢
      unfold TB WS at *
      cases q2 : b ρ1 with
      | nx ρ2 => rw [q2] at this; have e : ρ2 = S (F s x) := (by with_unfolding_all exact this); subst e; with_unfolding_all exact ih
      | ct ρ2 => rw [q2] at this; have e : ρ2 = S (F s x) := (by with_unfolding_all exact this); subst e; with_unfolding_all exact ih
      | bk ρ2 => rw [q2] at this; with_unfolding_all exact this
      | rt r ρ2 => rw [q2] at this; with_unfolding_all exact this
      | rd r ρ2 => rw [q2] at this; with_unfolding_all exact this
      | exc c ρ2 => rw [q2] at this; with_unfolding_all exact this
      | bad => rw [q2] at this; with_unfolding_all exact this
/-! comprehensions -/
def LCQ (os : List Op) (vs : List Nat) (ρ : En) (Q : Op → En → Prop) : List PyData → En → Prop := fun xs ρf => Q (.fr (.list xs)) (outE (zq6x os) vs 0 ρ ρf)
theorem lcq {xs : List PyData} {ρf : En} : LCQ os vs ρ QO xs ρf = QO (.fr (.list xs)) (outE (zq6x os) vs 0 ρ ρf) := nr (by with_unfolding_all rfl)
@[irreducible] def LCS (g : PyData → En → Res Unit) (t : En → Res Bool) (f : En → Res Op) (vs : List Nat) (ds : List PyData) (ρ1 : En) (Q : List PyData → En → Prop) : Prop := ds.length ≤ sizeLine ∧ WL g t f vs ds ρ1 Q
def KL (g : PyData → En → Res Unit) (t : En → Res Bool) (f : En → Res Op) (vs : List Nat) (Q : Op → En → Prop) : List PyData × List Op → En → Prop := fun p ρ => LCS g t f vs p.1 (inE (zq6x p.2) vs 0 ρ) (LCQ p.2 vs ρ Q)
theorem kl : KL g t f vs QO (ds, os) ρ = LCS g t f vs ds (inE (zq6x os) vs 0 ρ) (LCQ os vs ρ QO) := nr (by with_unfolding_all rfl)
theorem zq2z : WE (sLc it g t f vs) ρ X QO = WE it ρ X (KL g t f vs QO) := by
  unfold sLc; rw [zq00]
  congr 1; funext p ρ1
  unfold KB KL LCS WL WE LCQ
  dsimp only
  by_cases hl : p.1.length ≤ sizeLine
  · rw [if_pos hl]
    simp only [hl, true_and]
    cases lcGo g t f vs p.1 (inE (zq6x p.2) vs 0 ρ1) <;> with_unfolding_all rfl
  · rw [if_neg hl]
    simp only [hl, false_and]
theorem lt : LT g t f vs d ρ NL = WE (g d) ρ nX (LTa t f vs NL) := nr (by with_unfolding_all rfl)
theorem lt_a {x : Unit} : LTa t f vs NL x ρ = WE t ρ nX (LTb f vs NL) := nr (by with_unfolding_all rfl)
theorem zq3v : LTb f vs NL true ρ = WE f ρ nX (LTc vs NL) := nr (by with_unfolding_all rfl)
theorem zq3w : LTb f vs NL false ρ = NL none (inE [] vs 0 ρ) := nr (by with_unfolding_all rfl)
theorem lt_b (h1 : c = true → WE f ρ nX (LTc vs NL)) (h2 : c = false → NL none (inE [] vs 0 ρ)) : LTb f vs NL c ρ := by
  cases c
  · exact h2 rfl
  · exact h1 rfl
theorem lt_c : LTc vs NL o ρ = WE (fz o) ρ nX (LTd vs NL) := nr (by with_unfolding_all rfl)
theorem lt_d : LTd vs NL d ρ = NL (some d) (inE [] vs 0 ρ) := nr (by with_unfolding_all rfl)
theorem lt_turn (h : LT g t f vs d ρ NL) : ∃ r ρ', lcTurn g t f vs d ρ = .ok r ρ' ∧ NL r ρ' := by
  unfold LT WE LTa at h
  unfold lcTurn
  cases q : g d ρ with
  | bad => rw [q] at h; with_unfolding_all exact h.elim
  | exc c r => rw [q] at h; with_unfolding_all exact h.elim
  | ok y ρ1 =>
    rw [q] at h
    simp only [] at h ⊢
    unfold WE at h
    cases q2 : t ρ1 with
    | bad => rw [q2] at h; with_unfolding_all exact h.elim
    | exc c r => rw [q2] at h; with_unfolding_all exact h.elim
    | ok c ρ2 =>
      rw [q2] at h
      simp only [] at h ⊢
      cases c with
      | false => exact ⟨_, _, rfl, h⟩
      | true =>
        simp only []
        unfold LTb WE at h
        dsimp only at h
        cases q3 : f ρ2 with
        | bad => rw [q3] at h; with_unfolding_all exact h.elim
        | exc c r => rw [q3] at h; with_unfolding_all exact h.elim
        | ok o ρ3 =>
          rw [q3] at h
          simp only [] at h ⊢
          unfold LTc WE at h
          cases q4 : fz o ρ3 with
          | bad => rw [q4] at h; with_unfolding_all exact h.elim
          | exc c r => rw [q4] at h; with_unfolding_all exact h.elim
          | ok x ρ4 => rw [q4] at h; exact ⟨_, _, rfl, h⟩
/-- a comprehension that changes nothing: what each thing gives -/
theorem lcs_map {γ : Type} {QL : List PyData → En → Prop} (enc : γ → PyData) (F : γ → Option PyData) (xs : List γ) (hs : xs.length ≤ 1000) (h : ∀ x ∈ xs, LT g t f vs (enc x) ρ fun r ρ' => r = F x ∧ ρ' = ρ) (q : QL (xs.filterMap F) ρ) : LCS g t f vs (xs.map enc) ρ QL := by
  unfold LCS
  refine ⟨by rw [List.length_map]; exact small6 hs, ?_⟩
  have e := lcGo_enc (g := g) (t := t) (f := f) (vs := vs) (ρ := ρ) enc F (xs := xs) fun x m => by
    obtain ⟨r, ρ', e, rfl, rfl⟩ := lt_turn (h x m)
    exact e
  unfold WL; rw [e]; with_unfolding_all exact q
theorem lcs_all {γ : Type} {QL : List PyData → En → Prop} (enc : γ → PyData) (F : γ → PyData) (xs : List γ) (hs : xs.length ≤ 1000) (h : ∀ x ∈ xs, LT g t f vs (enc x) ρ fun r ρ' => r = some (F x) ∧ ρ' = ρ) (q : QL (xs.map F) ρ) : LCS g t f vs (xs.map enc) ρ QL :=
  lcs_map enc (fun x => some (F x)) xs hs h (by rw [List.filterMap_eq_map']; with_unfolding_all exact q)
theorem lcs_filter {γ : Type} {QL : List PyData → En → Prop} (enc : γ → PyData) (p : γ → Bool) (F : γ → PyData) (xs : List γ) (hs : xs.length ≤ 1000) (h : ∀ x ∈ xs, LT g t f vs (enc x) ρ fun r ρ' => r = (if p x = true then some (F x) else none) ∧ ρ' = ρ) (q : QL ((xs.filter p).map F) ρ) : LCS g t f vs (xs.map enc) ρ QL := by
  refine lcs_map enc (fun x => if p x = true then some (F x) else none) xs hs h ?_
  have e : xs.filterMap (fun x => if p x = true then some (F x) else none) = (xs.filter p).map F := by
    clear h q hs
    induction xs with
    | nil => with_unfolding_all rfl
    | cons x xs ih =>
      rw [List.filterMap_cons, List.filter_cons]
      by_cases hp : p x = true
      · simp only [hp, if_true, List.map_cons]; rw [ih]
      · simp only [hp, if_false, Bool.false_eq_true]; with_unfolding_all exact ih
  rw [e]; with_unfolding_all exact q
/-- a comprehension whose turns keep P, each giving something good -/
theorem lcs_inv {γ : Type} {QL : List PyData → En → Prop} (enc : γ → PyData) (P : En → Prop) (G : PyData → Prop) (xs : List γ) (hs : xs.length ≤ 1000) (h : ∀ x ∈ xs, ∀ ρ, P ρ → LT g t f vs (enc x) ρ fun r ρ' => (∃ y, r = some y ∧ G y) ∧ P ρ') (p : P ρ) (q : ∀ ys ρ', ys.length = xs.length → (∀ y ∈ ys, G y) → P ρ' → QL ys ρ') : LCS g t f vs (xs.map enc) ρ QL := by
  unfold LCS
  refine ⟨by rw [List.length_map]; exact small6 hs, ?_⟩
  obtain ⟨ys, ρ', e, l, gy, p'⟩ := lcGo_inv (g := g) (t := t) (f := f) (vs := vs) (ρ := ρ) (ds := xs.map enc) P G (fun d m ρ p => by
    obtain ⟨x, mx, rfl⟩ := List.mem_map.mp m
    obtain ⟨r, ρ', e, ⟨y, rfl, gy⟩, p'⟩ := lt_turn (h x mx ρ p)
    exact ⟨y, ρ', e, gy, p'⟩) p
  unfold WL; rw [e]
  exact q ys ρ' (by rw [l, List.length_map]) gy p'
end
theorem zq67 {i j : Int} : pPow (.int i) (.int j) = if (0 ≤ j ∧ j ≤ 1000000) ∧ -18446744073709551616 < i ∧ i < 18446744073709551616 then some (.v (.int (i ^ j.toNat))) else none := by
  rw [pPow_ap]
  by_cases h : (0 ≤ j ∧ j ≤ 1000000) ∧ -18446744073709551616 < i ∧ i < 18446744073709551616
  · rw [if_pos h, if_pos (by omega)]
  · rw [if_neg h, if_neg (by omega)]
theorem zq68 {i j : Int} : pShl (.int i) (.int j) = if (0 ≤ j ∧ j ≤ 1000000) ∧ -18446744073709551616 < i ∧ i < 18446744073709551616 then some (.v (.int (i * 2 ^ j.toNat))) else none := by
  rw [pShl_ap]
  by_cases h : (0 ≤ j ∧ j ≤ 1000000) ∧ -18446744073709551616 < i ∧ i < 18446744073709551616
  · rw [if_pos h, if_pos (by omega)]
  · rw [if_neg h, if_neg (by omega)]
theorem zq72 {ds : List PyData} {i : Int} : pIx (.list ds) (.int i) = (atI ds i).map .v := nr (by with_unfolding_all rfl)
theorem zq73 {ds : List PyData} {i : Int} : pIx (.tuple ds) (.int i) = (atI ds i).map .v := nr (by with_unfolding_all rfl)
theorem ixN_lit {n m : Nat} : ixN n (no_index (OfNat.ofNat m)) = if m < n then some m else none := by
  show ixN n ((m : Nat) : Int) = _
  unfold ixN
  by_cases h : m < n
  · rw [if_pos (by omega), if_pos (by omega), if_pos h, Int.toNat_natCast]
  · rw [if_pos (by omega), if_neg (by omega), if_neg h]
theorem zq74 {α : Type} {xs : List α} {m : Nat} : atI xs (no_index (OfNat.ofNat m)) = xs[m]? := by
  unfold atI
  rw [ixN_lit]
  by_cases h : m < xs.length
  · rw [if_pos h]; with_unfolding_all rfl
  · rw [if_neg h, List.getElem?_eq_none (by omega)]; with_unfolding_all rfl
theorem zq75 {α : Type} {xs : List α} : atI xs (-1) = xs.getLast? := by
  unfold atI ixN
  rw [if_neg (by omega)]
  cases xs with
  | nil => with_unfolding_all rfl
  | cons x xs =>
    rw [if_pos (by simp [List.length_cons]; omega), List.getLast?_eq_getElem?]
    show (x :: xs)[((-1 : Int) + ((x :: xs).length : Nat)).toNat]? = _
    congr 1
    simp [List.length_cons]; omega
theorem zq71 {m : Nat} {d : PyData} {ds : List PyData} : setP (.int (no_index (OfNat.ofNat m))) d ds = if m < ds.length then some (ds.set m d) else none := by
  show (ixN ds.length (OfNat.ofNat m)).map (fun m => ds.set m d) = _
  rw [ixN_lit]
  split <;> with_unfolding_all rfl
section
variable {i j : Int} {ds es : List PyData} {d e : PyData} {z y : Str} {b c : Bool} {p : Int → Int → Bool} {g : PyData → PyData → Bool} {gi : Int → Int → Int} {lo hi : Option Int} {n : Bool → Bool} {gd : PyData → List PyData → PyData}
theorem zq5p : pAdd (.int i) (.int j) = some (.v (.int (i + j))) := nr (by with_unfolding_all rfl)
theorem zq5q : pAdd (.str z) (.str y) = if z.length + y.length ≤ sizeLine then some (.v (.str (z ++ y))) else none := nr (by with_unfolding_all rfl)
theorem zq5r : pAdd (.list ds) (.list es) = if ds.length + es.length ≤ sizeLine then some (.fr (.list (ds ++ es))) else none := nr (by with_unfolding_all rfl)
theorem zq5s : pAdd (.tuple ds) (.tuple es) = if ds.length + es.length ≤ sizeLine then some (.v (.tuple (ds ++ es))) else none := nr (by with_unfolding_all rfl)
theorem zq5o : pCmp p g (.int i) (.int j) = some (.v (.bool (p i j))) := nr (by with_unfolding_all rfl)
theorem zq5t : pI0 gi (.int i) (.int j) = some (.v (.int (gi i j))) := nr (by with_unfolding_all rfl)
theorem zq5u : pB0 p (.int i) (.int j) = some (.v (.bool (p i j))) := nr (by with_unfolding_all rfl)
theorem zq5v : pNeg (.int i) = some (.v (.int (-i))) := nr (by with_unfolding_all rfl)
theorem zq6d : pAbs [.int i] = some (.v (.int (if i < 0 then -i else i))) := nr (by with_unfolding_all rfl)
theorem zq6a : pLen [.list ds] = some (.v (.int ds.length)) := nr (by with_unfolding_all rfl)
theorem zq6b : pLen [.tuple ds] = some (.v (.int ds.length)) := nr (by with_unfolding_all rfl)
theorem zq6c : pLen [.str z] = if z.length ≤ sizeLine then some (.v (.int z.length)) else none := nr (by with_unfolding_all rfl)
theorem zq6e : pTupOf [.list ds] = some (.v (.tuple ds)) := nr (by with_unfolding_all rfl)
theorem zq6f : pTupOf [.tuple ds] = some (.v (.tuple ds)) := nr (by with_unfolding_all rfl)
theorem zq6r : pSl (.list ds) lo hi = some (.fr (.list (cutD ds lo hi))) := nr (by with_unfolding_all rfl)
theorem zq6s : pSl (.tuple ds) lo hi = some (.v (.tuple (cutD ds lo hi))) := nr (by with_unfolding_all rfl)
theorem zq6k : pIs n d .none = some (.v (.bool (n (isN d)))) := by cases d <;> with_unfolding_all rfl
theorem zq6l : isN .none = true := nr (by with_unfolding_all rfl)
theorem zq6m : isN (.int i) = false := nr (by with_unfolding_all rfl)
theorem zq6n : isN (.bool b) = false := nr (by with_unfolding_all rfl)
theorem zq6o : isN (.str z) = false := nr (by with_unfolding_all rfl)
theorem zq6p : isN (.list ds) = false := nr (by with_unfolding_all rfl)
theorem zq6q : isN (.tuple ds) = false := nr (by with_unfolding_all rfl)
theorem zq6j : pBest gi gd [.int i, .int j] = some (.v (.int (gi i j))) := nr (by with_unfolding_all rfl)
theorem zq76 : pIsB n (.bool b) (.bool c) = some (.v (.bool (n (decide (b = c))))) := nr (by with_unfolding_all rfl)
theorem zq6t {m : Nat} : cutD ds none (some (no_index (OfNat.ofNat m))) = ds.take m := cutD_to ds m
theorem zq6u {m : Nat} : cutD ds (some (no_index (OfNat.ofNat m))) none = ds.drop m := by
  show cutD ds (some ((m : Nat) : Int)) none = _
  unfold cutD
  rw [HT.sIx_none, HT.sIx_nat]
  rcases Nat.le_total m ds.length with h | h
  · rw [Nat.min_eq_left h, List.take_of_length_le (by rw [List.length_drop]; omega)]
  · rw [Nat.min_eq_right h, List.drop_of_length_le h, List.drop_of_length_le (Nat.le_refl _)]; simp
end
mutual
def nice : PyData → Bool
  | .list ds => decide (ds.length ≤ 1000) && niceAll ds
  | .tuple ds => decide (ds.length ≤ 1000) && niceAll ds
  | .dict _ => false
  | _ => true
def niceAll : List PyData → Bool
  | [] => true
  | d :: ds => nice d && niceAll ds
end
theorem niceAll_mem : ∀ {ds : List PyData} {d : PyData}, niceAll ds = true → d ∈ ds → nice d = true
  | x :: ds, d, h, m => by
    rw [niceAll, Bool.and_eq_true] at h
    rcases List.mem_cons.mp m with e | m
    · rw [e]; with_unfolding_all exact h.1
    · exact niceAll_mem h.2 m
theorem niceAll_of : ∀ {ds : List PyData}, (∀ d ∈ ds, nice d = true) → niceAll ds = true
  | [], _ => rfl
  | d :: ds, h => by
    rw [niceAll, h d List.mem_cons_self, niceAll_of fun x m => h x (List.mem_cons_of_mem _ m)]; with_unfolding_all rfl
theorem zq1e {ρ : En} {X : XQ} {Q : Bool → En → Prop} : WE sYes ρ X Q = Q true ρ := nr (by with_unfolding_all rfl)
theorem pAll_rep (n : Nat) : pAll [.list (List.replicate n (.bool true))] = some (.v (.bool true)) := by
  have := pAll_bools (List.replicate n true)
  rw [List.map_replicate] at this
  rw [this]
  congr 3
  induction n with
  | zero => with_unfolding_all rfl
  | succ n ih => rw [List.replicate_succ, List.all_cons]; simp
theorem enum_map {α : Type} (k : Int) (enc : α → PyData) (xs : List α) : enumD k (xs.map enc) = xs.zipIdx.map fun p => .tuple [.int (k + (p.2 : Nat)), enc p.1] := by
  unfold enumD
  rw [List.zipIdx_map, List.map_map]
  with_unfolding_all rfl
theorem zipIdx_lt {α : Type} {xs : List α} {p : α × Nat} (h : p ∈ xs.zipIdx) : p.2 < xs.length ∧ xs[p.2]? = some p.1 := by
  have h2 := List.mem_zipIdx_iff_getElem?.mp h
  exact ⟨(List.getElem?_eq_some_iff.mp h2).1, h2⟩
@[irreducible] def RGR (j : Int) (ρ : En) (Q : List PyData × List Op → En → Prop) : Prop := (-(2 ^ 62) ≤ j ∧ j < 2 ^ 62) ∧ Q ((rng 0 j.toNat).reverse, []) ρ
def KRR (Q : List PyData × List Op → En → Prop) : PyData → En → Prop := fun d ρ => match d with
  | .int j => RGR j ρ Q
  | _ => False
def KRO (X : XQ) (Q : List PyData × List Op → En → Prop) : Op → En → Prop := fun o ρ => WE (rdd o) ρ X (KRR Q)
section
variable {ρ : En} {X : XQ} {Q : List PyData × List Op → En → Prop} {o : Op} {f : En → Res Op}
theorem krr {j : Int} : KRR Q (.int j) ρ = RGR j ρ Q := nr (by with_unfolding_all rfl)
theorem kro : KRO X Q o ρ = WE (rdd o) ρ X (KRR Q) := nr (by with_unfolding_all rfl)
theorem zq1h : WE (sRevR f) ρ X Q = WE f ρ X (KRO X Q) := by
  unfold sRevR; rw [zq00]
  congr 1; funext o ρ1; unfold KB KRO; rw [zq00]
  congr 1; funext d ρ2; unfold KB KRR RGR WE
  cases d with
  | int j =>
    dsimp only
    by_cases hb : -(2 ^ 62) ≤ j ∧ j < 2 ^ 62
    · rw [if_pos hb]; exact propext ⟨fun h => ⟨hb, h⟩, fun h => h.2⟩
    · rw [if_neg hb]; exact propext ⟨fun h => h.elim, fun h => hb h.1⟩
  | _ => rfl
theorem rgr_of {j : Int} (M : Nat) (e : j = M) (h : M < 1000000000) (q : Q ((rng 0 M).reverse, []) ρ) : RGR j ρ Q := by
  subst e; unfold RGR; exact ⟨by omega, by rw [Int.toNat_natCast]; exact q⟩
end
/-- a comprehension, by what holds of the part gone and of what it gave -/
theorem lcs_gen {γ : Type} {g : PyData → En → Res Unit} {t : En → Res Bool} {f : En → Res Op} {vs : List Nat} {ρ : En} {QL : List PyData → En → Prop} (enc : γ → PyData) (P : List γ → List PyData → En → Prop) (xs : List γ) (hs : xs.length ≤ 1000) (h : ∀ pre x post acc ρ, pre ++ x :: post = xs → P pre acc ρ → LT g t f vs (enc x) ρ fun r ρ' => P (pre ++ [x]) (acc ++ r.toList) ρ') (p : P [] [] ρ) (q : ∀ ys ρ', P xs ys ρ' → QL ys ρ') : LCS g t f vs (xs.map enc) ρ QL := by
  unfold LCS
  refine ⟨by rw [List.length_map]; exact small6 hs, ?_⟩
  suffices H : ∀ (post pre : List γ) (acc : List PyData) (ρ : En), pre ++ post = xs → P pre acc ρ → ∃ ys ρ', lcGo g t f vs (post.map enc) ρ = .ok ys ρ' ∧ P xs (acc ++ ys) ρ' by
    obtain ⟨ys, ρ', e, p'⟩ := H xs [] [] ρ rfl p
    unfold WL; rw [e]
    exact q ys ρ' (by simpa using p')
  intro post
  induction post with
  | nil => intro pre acc ρ e p; rw [List.append_nil] at e; subst e; exact ⟨[], ρ, rfl, by rw [List.append_nil]; exact p⟩
  | cons x post ih =>
    intro pre acc ρ e p
    obtain ⟨r, ρ1, e1, p1⟩ := lt_turn (h pre x post acc ρ e p)
    obtain ⟨ys, ρ2, e2, p2⟩ := ih (pre ++ [x]) (acc ++ r.toList) ρ1 (by rw [List.append_assoc]; exact e) p1
    rw [List.map_cons, lcGo_cons, e1]
    cases r with
    | none => exact ⟨ys, ρ2, e2, by simpa using p2⟩
    | some y => exact ⟨y :: ys, ρ2, by simp only [e2], by simpa using p2⟩
theorem rng_nat (n : Nat) : rng 0 n = (List.range n).map fun (i : Nat) => PyData.int i := by
  unfold rng; simp only [Int.zero_add]
/-- the letter with the code c -/
def encL (c : Nat) : PyData := .str ⟨#[c]⟩
theorem alpha_cps : (("abcdefghijklmnopqrstuvwxyz" : Str)).cps.toList = (List.range 26).map fun i => 97 + i := by decide +kernel
theorem str_small {z : Str} (h : z.length ≤ 1000) : z.length ≤ sizeLine := small6 h
theorem pIx_s {z : Str} {i : Int} : pIx (.str z) (.int i) = if z.length ≤ sizeLine then (atI z.cps.toList i).map fun c => .v (.str ⟨#[c]⟩) else none := rfl
theorem pIx_alpha {i : Int} (h0 : 0 ≤ i) (h1 : i < 26) : pIx (.str "abcdefghijklmnopqrstuvwxyz") (.int i) = some (.v (encL (97 + i.toNat))) := by
  obtain ⟨n, rfl⟩ : ∃ n : Nat, i = n := ⟨i.toNat, by omega⟩
  rw [pIx_s, if_pos (str_small (by decide +kernel)), alpha_cps, atI_nat (by simp; omega)]
  simp [encL]
theorem okS_letters (cs : List Nat) : okS (cs.map encL) = true := by
  unfold okS
  have hd : PyData.depthAll (cs.map encL) ≤ 60 := by
    have : PyData.depthAll (cs.map encL) ≤ 0 := depthAll_map fun c _ => by simp [encL, PyData.depth]
    omega
  simp only [Bool.and_eq_true, Bool.or_eq_true, List.all_eq_true, decide_eq_true_eq]
  refine ⟨⟨fun x hx y hy => ?_, .inr fun x hx => ?_⟩, hd⟩
  · obtain ⟨c, _, rfl⟩ := List.mem_map.mp hx
    obtain ⟨e, _, rfl⟩ := List.mem_map.mp hy
    simp [encL, PySem.W.alike]
  · obtain ⟨c, _, rfl⟩ := List.mem_map.mp hx
    rfl
theorem sort_letters (cs : List Nat) : pSorted [.list (cs.map encL)] = some (.fr (.list ((cs.mergeSort fun a b => decide (a ≤ b)).map encL))) := by
  show (if okS (cs.map encL) = true then some (Op.fr (.list (sortD (cs.map encL)))) else none) = _
  rw [if_pos (okS_letters cs)]
  unfold sortD
  rw [List.map_mergeSort (r := fun a b => decide (a ≤ b)) (s := PySem.W.dataLe false id)]
  intro a _ b _
  have h := congrFun (congrFun (PySem.W.dataLe_str (fun c : Nat => (⟨#[c]⟩ : Str))) a) b
  have e : PySem.W.dataLe false id (encL a) (encL b) = PySem.W.dataLe false (fun c : Nat => PyData.str ⟨#[c]⟩) a b := rfl
  rw [e, h]
  show decide (a ≤ b) = decide ([a] ≤ [b])
  congr 1
  apply propext
  constructor
  · intro h2
    rcases Nat.lt_or_ge a b with h3 | h3
    · exact List.le_of_lt (List.Lex.rel h3)
    · rw [Nat.le_antisymm h2 h3]; exact List.le_refl _
  · intro h2
    rcases Nat.lt_or_ge b a with h3 | h3
    · exact absurd (List.Lex.rel h3 : [b] < [a]) (List.not_lt.mpr h2)
    · exact h3
/-- each thing that differs from the one ahead of it -/
def ded (p : Option Nat) : List Nat → List Nat
  | [] => []
  | x :: xs => if p = some x then ded p xs else x :: ded (some x) xs
theorem ded_snoc : ∀ (l : List Nat) (p : Option Nat) (x : Nat), ded p (l ++ [x]) = ded p l ++ (if (l.getLast?.or p) = some x then [] else [x])
  | [], p, x => by by_cases h : p = some x <;> simp [ded, h]
  | y :: l, p, x => by
    rw [List.cons_append, ded, ded]
    have hl : ((y :: l).getLast?.or p) = (l.getLast?.or (some y)) := by
      cases l with
      | nil => rfl
      | cons z l => simp [List.getLast?_cons]
    by_cases h : p = some y
    · rw [if_pos h, if_pos h, ded_snoc l p x, hl, h]
    · rw [if_neg h, if_neg h, ded_snoc l (some y) x, hl, List.cons_append]
theorem ded_rising : ∀ (l : List Nat) (p : Option Nat), l.Pairwise (· ≤ ·) → (∀ q, p = some q → ∀ x ∈ l, q ≤ x) → (ded p l).Pairwise (· < ·) ∧ (∀ x ∈ ded p l, x ∈ l ∧ ∀ q, p = some q → q < x)
  | [], p, _, _ => ⟨.nil, fun _ m => nomatch m⟩
  | y :: l, p, hl, hp => by
    obtain ⟨h1, h2⟩ := List.pairwise_cons.mp hl
    rw [ded]
    by_cases h : p = some y
    · rw [if_pos h]
      obtain ⟨i1, i2⟩ := ded_rising l p h2 (fun q e x m => hp q e x (List.mem_cons_of_mem _ m))
      exact ⟨i1, fun x m => ⟨List.mem_cons_of_mem _ (i2 x m).1, (i2 x m).2⟩⟩
    · rw [if_neg h]
      obtain ⟨i1, i2⟩ := ded_rising l (some y) h2 (fun q e x m => by cases e; exact h1 x m)
      refine ⟨List.pairwise_cons.mpr ⟨fun x m => (i2 x m).2 y rfl, i1⟩, fun x m => ?_⟩
      have hy : ∀ q, p = some q → q < y := fun q e => by
        have := hp q e y List.mem_cons_self
        rcases Nat.lt_or_ge q y with z | z
        · exact z
        · have : q = y := by omega
          subst this; exact absurd e h
      rcases List.mem_cons.mp m with e | m
      · rw [e]; exact ⟨List.mem_cons_self, hy⟩
      · refine ⟨List.mem_cons_of_mem _ (i2 x m).1, fun q e => ?_⟩
        have a := hy q e
        have b := (i2 x m).2 y rfl
        omega
theorem zipIdx_split {α : Type} {L : List α} {pre post : List (α × Nat)} {x : α × Nat} (h : pre ++ x :: post = L.zipIdx) : x.2 = pre.length ∧ L = pre.map (·.1) ++ x.1 :: post.map (·.1) := by
  constructor
  · have : L.zipIdx[pre.length]? = some x := by rw [← h]; simp
    rw [List.getElem?_zipIdx] at this
    cases q : L[pre.length]? with
    | none => rw [q] at this; cases this
    | some y => rw [q] at this; simp at this; rw [← this]
  · have : (L.zipIdx).map (·.1) = L := by simp
    rw [← this, ← h]; simp
theorem beqL (a b : Nat) : (((⟨#[a]⟩ : Str)) == ⟨#[b]⟩) = (a == b) := by
  by_cases h : a = b
  · subst h; simp
  · have h2 : ¬ ((⟨#[a]⟩ : Str)) = ⟨#[b]⟩ := fun e => h (by injection e with e; simpa using e)
    rw [beq_eq_false_iff_ne.mpr h2, beq_eq_false_iff_ne.mpr h]
theorem zq62 {a b : Nat} : pNe (encL a) (encL b) = some (.v (.bool (!(a == b)))) := by unfold encL; rw [zq60, beqL]
theorem zq63 {a b : Nat} : pEq (encL a) (encL b) = some (.v (.bool (a == b))) := by unfold encL; rw [zq5x, beqL]
theorem ded_len : ∀ (l : List Nat) (p : Option Nat), (ded p l).length ≤ l.length
  | [], _ => Nat.le_refl _
  | x :: l, p => by
    rw [ded]
    split
    · have := ded_len l p; rw [List.length_cons]; omega
    · have := ded_len l (some x); rw [List.length_cons, List.length_cons]; omega
theorem lit_inj {a b : String} (h : Str.ofString a = Str.ofString b) : a = b := by
  rw [Str.ofString_eq_byList] at h
  unfold Str.ofStringByList at h
  injection h with h
  have h2 : a.toList.map Char.toNat = b.toList.map Char.toNat := by simpa using congrArg Array.toList h
  have h3 : a.toList = b.toList := List.map_inj_right (fun x y e => Char.toNat_inj.mp e) |>.mp h2
  exact String.toList_inj.mp h3
theorem lit_beq (a b : String) : (Str.ofString a == Str.ofString b) = (a == b) := by
  by_cases h : a = b
  · subst h; simp
  · rw [beq_eq_false_iff_ne.mpr (fun e => h (lit_inj e)), beq_eq_false_iff_ne.mpr h]
theorem cutD_mid {α : Type} (xs : List α) (a b : Nat) : cutD xs (some (a : Int)) (some (b : Int)) = (xs.drop a).take (b - a) := by
  unfold cutD
  rw [HT.sIx_nat, HT.sIx_nat]
  rcases Nat.le_total a xs.length with h | h
  · rw [Nat.min_eq_left h]
    rcases Nat.le_total b xs.length with h2 | h2
    · rw [Nat.min_eq_left h2]
    · rw [Nat.min_eq_right h2, List.take_of_length_le (i := b - a) (by rw [List.length_drop]; omega), List.take_of_length_le (by rw [List.length_drop]; omega)]
  · rw [Nat.min_eq_right h, List.drop_of_length_le h, List.drop_of_length_le (Nat.le_refl _)]; simp
theorem cutD_from {α : Type} (xs : List α) (a : Nat) : cutD xs (some (a : Int)) none = xs.drop a := by
  unfold cutD
  rw [HT.sIx_nat, HT.sIx_none]
  rcases Nat.le_total a xs.length with h | h
  · rw [Nat.min_eq_left h, List.take_of_length_le (by rw [List.length_drop]; omega)]
  · rw [Nat.min_eq_right h, List.drop_of_length_le h, List.drop_of_length_le (Nat.le_refl _)]; simp
theorem zq6v {ds : List PyData} {a b : Nat} : cutD ds (some (no_index (OfNat.ofNat a))) (some (no_index (OfNat.ofNat b))) = (ds.drop a).take (b - a) := cutD_mid ds a b
end Py
end L2

namespace L2
namespace Py
open PySem PySem.Spec PyProof.Rows
/-! ## more rules: dicts, new tuples -/
section
variable {α β : Type} {ρ : En} {f f0 f1 f2 : En → Res Op} {gs : En → Res (List Op)} {i j n : Nat} {d e k x : PyData} {ds es : List PyData} {kvs : List (PyData × PyData)} {o : Op} {os : List Op} {X : XQ} {QO : Op → En → Prop} {QU : Unit → En → Prop} {QI : List PyData × List Op → En → Prop} {QS : Out → Prop} {QC : Cs → En → Prop} {b : En → Out} {fc fs : En → Res Cs} {cs : Cs} {is : List Nat} {c : Bool × PyData}
theorem zq30 : WE (sGet1 f0 f1) ρ X QO = WE f0 ρ X (KB (fun o0 => bnd (dctO o0) fun _ => bnd f1 fun o1 => bnd (rdd o0) fun d0 => bnd (rdd o1) fun k => opt (pGet d0 k .none)) X QO) := by unfold sGet1; rw [zq00]
theorem zq31 : WE (sGet2 f0 f1 f2) ρ X QO = WE f0 ρ X (KB (fun o0 => bnd (dctO o0) fun _ => bnd f1 fun o1 => bnd f2 fun o2 => bnd (fz o2) fun x => bnd (rdd o0) fun d0 => bnd (rdd o1) fun k => opt (pGet d0 k x)) X QO) := by unfold sGet2; rw [zq00]
def DCK (o : Option PyData) (ρ : En) (Q : Unit → En → Prop) : Prop := match o with
  | some (.dict ds) => nestD ds = false ∧ Q () ρ
  | _ => False
theorem dck : DCK (some (.dict kvs)) ρ QU = (nestD kvs = false ∧ QU () ρ) := nr (by with_unfolding_all rfl)
theorem zq32 : WE (dctO o) ρ X QU = DCK (rd ρ o) ρ QU := by
  unfold WE dctO DCK
  generalize rd ρ o = q
  cases q with
  | none => rfl
  | some d => cases d with
    | dict ds =>
      dsimp only
      cases nestD ds with
      | true => simp
      | false => simp
    | _ => rfl
theorem zq77 {i : Int} (h : nestD kvs = false) : pGet (.dict kvs) (.int i) x = some (.v ((lookD kvs (.int i)).getD x)) := by unfold pGet; dsimp only; rw [h]; rfl
theorem zq78 {i : Str} (h : nestD kvs = false) : pGet (.dict kvs) (.str i) x = some (.v ((lookD kvs (.str i)).getD x)) := by unfold pGet; dsimp only; rw [h]; rfl
theorem zq79 {i : Int} : pIx2 (.list ds) (.int i) = (atI ds i).map .v := by
  unfold pIx2; rw [zq72]; cases atI ds i <;> rfl
theorem zq7a {i : Int} : pIx2 (.tuple ds) (.int i) = (atI ds i).map .v := by
  unfold pIx2; rw [zq73]; cases atI ds i <;> rfl
theorem zq7b {i : Int} (h : nestD kvs = false) : pIx2 (.dict kvs) (.int i) = (lookD kvs (.int i)).map .v := by
  show (match pIx (.dict kvs) (.int i) with | some o => some o | none => pIxD (.dict kvs) (.int i)) = _
  show pIxD (.dict kvs) (.int i) = _
  unfold pIxD; dsimp only; rw [h]; rfl
theorem zq7c {i : Str} (h : nestD kvs = false) : pIx2 (.dict kvs) (.str i) = (lookD kvs (.str i)).map .v := by
  show (match pIx (.dict kvs) (.str i) with | some o => some o | none => pIxD (.dict kvs) (.str i)) = _
  show pIxD (.dict kvs) (.str i) = _
  unfold pIxD; dsimp only; rw [h]; rfl
theorem pIx2_alpha {i : Int} (h0 : 0 ≤ i) (h1 : i < 26) : pIx2 (.str "abcdefghijklmnopqrstuvwxyz") (.int i) = some (.v (encL (97 + i.toNat))) := by
  unfold pIx2; rw [pIx_alpha h0 h1]
theorem zq7d {m : Bool → Bool} {i : Int} (h : nestD kvs = false) : pIn2 m (.int i) (.dict kvs) = some (.v (.bool (m (lookD kvs (.int i)).isSome))) := by
  show pInD m (.int i) (.dict kvs) = _
  unfold pInD; dsimp only; rw [h]; rfl
theorem zq7e {m : Bool → Bool} {i : Str} (h : nestD kvs = false) : pIn2 m (.str i) (.dict kvs) = some (.v (.bool (m (lookD kvs (.str i)).isSome))) := by
  show pInD m (.str i) (.dict kvs) = _
  unfold pInD; dsimp only; rw [h]; rfl
theorem pIn2_of {m : Bool → Bool} {o : Op} (h : pIn m d e = some o) : pIn2 m d e = some o := by unfold pIn2; rw [h]
theorem zq33 : WS (sSetD j f1 f2) ρ QS = WS (unS (bnd f2 fun o => bnd (fz o) fun d => bnd (sHas j) fun _ => bnd f1 fun oi => bnd (rdd oi) fun k => mutD j (putP k d))) ρ QS := nr (by with_unfolding_all rfl)
def HSK (o : Option Sl) (ρ : En) (Q : Unit → En → Prop) : Prop := match o with
  | some (.own _) => Q () ρ
  | some (.inn _) => Q () ρ
  | _ => False
theorem zq5c : HSK (some (.own d)) ρ QU = QU () ρ := nr (by with_unfolding_all rfl)
theorem zq5d : HSK (some (.inn d)) ρ QU = QU () ρ := nr (by with_unfolding_all rfl)
theorem zq34 : WE (sHas j) ρ X QU = HSK ρ[j]? ρ QU := by
  unfold WE sHas HSK
  generalize ρ[j]? = q
  cases q with
  | none => rfl
  | some s => cases s <;> rfl
def MD (j : Nat) (o : Option Sl) (p : List (PyData × PyData) → Option (List (PyData × PyData))) (ρ : En) (Q : Unit → En → Prop) : Prop := match o with
  | some (.own (.dict ds)) => (match pD p ds with | some ds' => Q () (ρ.set j (.own (.dict ds'))) | none => False)
  | some (.inn (.dict ds)) => (match pD p ds with | some ds' => Q () (ρ.set j (.inn (.dict ds'))) | none => False)
  | _ => False
def MDo (j : Nat) (o : Option (List (PyData × PyData))) (ρ : En) (Q : Unit → En → Prop) : Prop := match o with
  | some ds => Q () (ρ.set j (.own (.dict ds)))
  | none => False
def MDi (j : Nat) (o : Option (List (PyData × PyData))) (ρ : En) (Q : Unit → En → Prop) : Prop := match o with
  | some ds => Q () (ρ.set j (.inn (.dict ds)))
  | none => False
theorem mdo : MDo j (some kvs) ρ QU = QU () (ρ.set j (.own (.dict kvs))) := nr (by with_unfolding_all rfl)
theorem mdi : MDi j (some kvs) ρ QU = QU () (ρ.set j (.inn (.dict kvs))) := nr (by with_unfolding_all rfl)
theorem zq5e {p : List (PyData × PyData) → Option (List (PyData × PyData))} : MD j (some (.own (.dict kvs))) p ρ QU = MDo j (pD p kvs) ρ QU := by unfold MD MDo; rfl
theorem zq5f {p : List (PyData × PyData) → Option (List (PyData × PyData))} : MD j (some (.inn (.dict kvs))) p ρ QU = MDi j (pD p kvs) ρ QU := by unfold MD MDi; rfl
theorem zq35 {p : List (PyData × PyData) → Option (List (PyData × PyData))} : WE (mutD j p) ρ X QU = MD j ρ[j]? p ρ QU := by
  unfold WE mutD MD
  generalize ρ[j]? = q
  cases q with
  | none => rfl
  | some s => cases s with
    | own d => cases d with
      | dict ds => dsimp only; generalize pD p ds = o; cases o <;> rfl
      | _ => rfl
    | inn d => cases d with
      | dict ds => dsimp only; generalize pD p ds = o; cases o <;> rfl
      | _ => rfl
    | _ => rfl
theorem pD_p {p : List (PyData × PyData) → Option (List (PyData × PyData))} (h : nestD kvs = false) : pD p kvs = p kvs := by unfold pD; rw [h]; rfl
theorem putP_i {i : Int} (h : kvs.length < 1000) : putP (.int i) d kvs = some (putD kvs (.int i) d) := by
  unfold putP
  rw [if_pos ⟨rfl, small1000 (by omega)⟩]
theorem putP_s {i : Str} (h : kvs.length < 1000) : putP (.str i) d kvs = some (putD kvs (.str i) d) := by
  unfold putP
  rw [if_pos ⟨rfl, small1000 (by omega)⟩]
theorem zq36 : WE (sKeys f) ρ X QI = WE f ρ X (KB itD X QI) := by unfold sKeys; rw [zq00]
def ITD (i : Nat) (o : Option Sl) (ρ : En) (Q : List PyData × List Op → En → Prop) : Prop := match o with
  | some (.own (.dict ds)) => nestD ds = false ∧ Q (ds.map (·.1), []) (ρ.set i (.val (.dict ds)))
  | _ => False
theorem itd : ITD i (some (.own (.dict kvs))) ρ QI = (nestD kvs = false ∧ QI (kvs.map (·.1), []) (ρ.set i (.val (.dict kvs)))) := nr (by with_unfolding_all rfl)
theorem zq37 : WE (itD (.pl i)) ρ X QI = ITD i ρ[i]? ρ QI := by
  unfold WE itD ITD
  dsimp only
  generalize ρ[i]? = q
  cases q with
  | none => rfl
  | some s => cases s with
    | own d => cases d with
      | dict ds =>
        dsimp only
        cases nestD ds with
        | true => simp
        | false => simp
      | _ => rfl
    | _ => rfl
theorem zq7f : pLstOf2 [.list ds] = some (.fr (.list ds)) := nr (by with_unfolding_all rfl)
theorem zq7g : pLstOf2 [.tuple ds] = some (.fr (.list ds)) := nr (by with_unfolding_all rfl)
theorem zq7h (h : nestD kvs = false) : pLstOf2 [.dict kvs] = some (.fr (.list (kvs.map (·.1)))) := by
  show (if nestD kvs = true then none else _) = _
  rw [h]; rfl
theorem zq8j : nestD [] = false := rfl
theorem zq8k {i : Int} : nestD ((.int i, d) :: kvs) = false := rfl
theorem zq8l {i : Str} : nestD ((.str i, d) :: kvs) = false := rfl
theorem nestD_t : nestD ((.tuple ds, d) :: kvs) = true := rfl
theorem zq8m : pIsLT .none = some (.v (.bool false)) := rfl
theorem zq8n {b : Bool} : pIsLT (.bool b) = some (.v (.bool false)) := rfl
theorem zq8o {i : Int} : pIsLT (.int i) = some (.v (.bool false)) := rfl
theorem zq8p {i : Str} : pIsLT (.str i) = some (.v (.bool false)) := rfl
theorem zq8q : pIsLT (.list ds) = some (.v (.bool true)) := rfl
theorem zq8r : pIsLT (.tuple ds) = some (.v (.bool true)) := rfl
/-! new tuples -/
@[irreducible] def FC (f : En → Res Cs) (args : En) (X : XQ) (Q : Cs → En → Prop) : Prop := WE f args X Q
def FIND (args : En) (X : XQ) (Q : Cs → En → Prop) : Out → Prop
  | .rd cs ρ => Q cs (zq70 args ρ)
  | .rt (.v (.tuple ds)) ρ => Q (ds.map fun d => (false, d)) (zq70 args ρ)
  | _ => False
theorem zq38 {args : En} : FIND args X QC (.rd cs ρ) = QC cs (zq70 args ρ) := nr (by with_unfolding_all rfl)
theorem zq39 {args : En} : FIND args X QC (.rt (.v (.tuple ds)) ρ) = QC (ds.map fun d => (false, d)) (zq70 args ρ) := nr (by with_unfolding_all rfl)
theorem fc_runFD {args : En} : FC (runFD n b) args nX QC = WS b (args ++ List.replicate (n - args.length) .no) (FIND args nX QC) := by
  unfold FC WE WS NB runFD FIND
  generalize b (args ++ List.replicate (n - args.length) .no) = o
  cases o with
  | rt r ρ => cases r with
    | v d => cases d <;> rfl
    | _ => rfl
  | _ => rfl
theorem fc_of {args outs : En} (h : fc args = .ok cs outs) : FC fc args X QC = QC cs outs := by unfold FC WE; rw [h]
theorem eq_fc {args outs : En} (h : FC fc args nX fun c' outs' => c' = cs ∧ outs' = outs) : fc args = .ok cs outs := by
  unfold FC WE at h
  cases q : fc args with
  | ok o r => rw [q] at h; rw [h.1, h.2]
  | exc c r => rw [q] at h; exact h.elim
  | bad => rw [q] at h; exact h.elim
def RTC (o : Option (Cs × En)) (Q : Out → Prop) : Prop := match o with
  | some (cs, ρ') => Q (.rd cs ρ')
  | none => False
theorem rtcs : RTC (some (cs, ρ)) QS = QS (.rd cs ρ) := nr (by with_unfolding_all rfl)
def KRT (Q : Out → Prop) : List Op → En → Prop := fun os ρ => RTC (rtC os ρ) Q
theorem krt : KRT QS os ρ = RTC (rtC os ρ) QS := nr (by with_unfolding_all rfl)
theorem zq3a : WS (sRetT gs) ρ QS = WE gs ρ (XS QS) (KRT QS) := by
  unfold sRetT; rw [zq20]
  congr 1; funext os ρ1
  unfold KS KRT WS RTC NB
  dsimp only
  generalize rtC os ρ1 = q
  cases q with
  | none => rfl
  | some p => rfl
theorem zq7i : rtC [] ρ = some ([], ρ) := nr (by with_unfolding_all rfl)
theorem zq7j : rtC (.v d :: os) ρ = (rtC os ρ).map fun p => ((false, d) :: p.1, p.2) := nr (by with_unfolding_all rfl)
theorem zq7k : rtC (.fr d :: os) ρ = (rtC os ρ).map fun p => ((true, d) :: p.1, p.2) := nr (by with_unfolding_all rfl)
def RPL (o : Option Sl) (i : Nat) (os : List Op) (ρ : En) : Option (Cs × En) := match o with
  | some (.own d) => (rtC os (ρ.set i .no)).map fun p => ((true, d) :: p.1, p.2)
  | some (.val d) => (rtC os ρ).map fun p => ((false, d) :: p.1, p.2)
  | some (.fix d) => (rtC os ρ).map fun p => ((false, d) :: p.1, p.2)
  | _ => none
theorem zq7l : rtC (.pl i :: os) ρ = RPL ρ[i]? i os ρ := nr (by with_unfolding_all rfl)
theorem zq5g : RPL (some (.own d)) i os ρ = (rtC os (ρ.set i .no)).map fun p => ((true, d) :: p.1, p.2) := nr (by with_unfolding_all rfl)
theorem zq3b : sq b QS (.rd cs ρ) = QS (.rd cs ρ) := nr (by with_unfolding_all rfl)
theorem zq3c {vs : List Nat} : kq vs QS (.rd cs ρ) = QS (.rd cs ρ) := nr (by with_unfolding_all rfl)
theorem zq3d {N : En → Prop} : TQ N QS (.rd cs ρ) = QS (.rd cs ρ) := nr (by with_unfolding_all rfl)
def CALLD (fs : En → Res Cs) (ps : Option En) (c : Bool) (os : List Op) (ρ : En) (X : XQ) (Q : Cs → En → Prop) : Prop := match ps, c with
  | some ps, true => FC fs ps nX fun cs outs => Q cs (back os outs ρ)
  | _, _ => False
def CQD (os : List Op) (ρ : En) (Q : Cs → En → Prop) : Cs → En → Prop := fun cs outs => Q cs (back os outs ρ)
theorem cqd {outs : En} : CQD os ρ QC cs outs = QC cs (back os outs ρ) := nr (by with_unfolding_all rfl)
theorem zq5h {ps : En} : CALLD fs (some ps) true os ρ X QC = FC fs ps nX (CQD os ρ QC) := nr (by with_unfolding_all rfl)
theorem zq3e : WE (sCallD fs gs) ρ X QC = WE gs ρ X (KB (callFD fs) X QC) := by unfold sCallD; rw [zq00]
theorem zq3f : WE (callFD fs os) ρ X QC = CALLD fs (zq6w ρ os) (ndN (zq6x os)) os ρ X QC := by
  unfold WE callFD CALLD
  cases zq6w ρ os with
  | none => rfl
  | some ps =>
    cases ndN (zq6x os) with
    | false => rfl
    | true =>
      simp only [if_true]
      unfold FC WE
      cases fs ps <;> rfl
theorem zq3g : WE (sFzC fc) ρ X QO = WE fc ρ X (KB (fun cs ρ => .ok (.v (.tuple (cs.map (·.2)))) ρ) X QO) := by unfold sFzC; rw [zq00]
theorem zq3h : WS (sRetC fc) ρ QS = WE fc ρ (XS QS) (KS (fun cs ρ => .rd cs ρ) QS) := by unfold sRetC; rw [zq20]
theorem zq3i : WS (fun ρ => .rd cs ρ) ρ QS = QS (.rd cs ρ) := nr (by with_unfolding_all rfl)
theorem zq3j : WS (Out.rd cs) ρ QS = QS (.rd cs ρ) := nr (by with_unfolding_all rfl)
theorem zq3k : WS (sUnpC is fc) ρ QS = WS (unS (bnd fc (putC is))) ρ QS := nr (by with_unfolding_all rfl)
theorem zq3t : WE (putC [] []) ρ X QU = QU () ρ := nr (by with_unfolding_all rfl)
def KPC (is : List Nat) (cs : Cs) (X : XQ) (Q : Unit → En → Prop) : Unit → En → Prop := fun _ ρ => WE (putC is cs) ρ X Q
theorem kpc {u : Unit} : KPC is cs X QU u ρ = WE (putC is cs) ρ X QU := nr (by with_unfolding_all rfl)
theorem zq3u : WE (putC (i :: is) (c :: cs)) ρ X QU = PT i ρ[i]? (slC c) ρ (KPC is cs X QU) := by
  unfold WE PT KPC
  rw [putC]
  generalize ρ[i]? = q
  cases q with
  | none => rfl
  | some s => cases s <;> (unfold WE; rfl)
theorem zq8b : slC (true, d) = .own d := nr (by with_unfolding_all rfl)
theorem zq8c : slC (false, d) = .val d := nr (by with_unfolding_all rfl)
def TPC (o : Option Cs) (ρ : En) (Q : Cs → En → Prop) : Prop := match o with
  | some cs => Q cs ρ
  | none => False
theorem tpcs : TPC (some cs) ρ QC = QC cs ρ := nr (by with_unfolding_all rfl)
def KTC (Q : Cs → En → Prop) : List Op → En → Prop := fun os ρ => TPC (rtF os ρ) ρ Q
theorem ktc : KTC QC os ρ = TPC (rtF os ρ) ρ QC := nr (by with_unfolding_all rfl)
theorem zq3l : WE (sTupC gs) ρ X QC = WE gs ρ X (KTC QC) := by
  unfold sTupC; rw [zq00]
  congr 1; funext os ρ1
  unfold KB KTC WE TPC
  dsimp only
  generalize rtF os ρ1 = q
  cases q with
  | none => rfl
  | some p => rfl
theorem zq88 : rtF [] ρ = some [] := nr (by with_unfolding_all rfl)
theorem zq89 : rtF (.v d :: os) ρ = (rtF os ρ).map fun p => (false, d) :: p := nr (by with_unfolding_all rfl)
theorem zq8a : rtF (.fr d :: os) ρ = (rtF os ρ).map fun p => (true, d) :: p := nr (by with_unfolding_all rfl)
/-! a new tuple stored, looked at, changed -/
theorem zq7m : hdD (d :: ds) = d := nr (by with_unfolding_all rfl)
theorem zq3m : WE (sFzE f) ρ X QO = WE f ρ X (KB (fun o => bnd (fzs [o]) fun ds ρ => .ok (.v (hdD ds)) ρ) X QO) := by unfold sFzE; rw [zq00]
def FRE (o : Option Sl) (P : Prop) : Prop := match o with
  | some s => s.free = true ∧ P
  | none => False
theorem zq7s {P : Prop} : FRE (some .no) P = P := by unfold FRE Sl.free; simp
theorem zq7t {P : Prop} : FRE (some (.val d)) P = P := by unfold FRE Sl.free; simp
theorem zq7u {P : Prop} : FRE (some (.own d)) P = P := by unfold FRE Sl.free; simp
@[irreducible] def BLB (b : Bool) (P Q : Prop) : Prop := match b with
  | true => P
  | false => Q
theorem zq7v {P Q : Prop} : BLB true P Q = P := by unfold BLB; rfl
theorem zq7w {P Q : Prop} : BLB false P Q = Q := by unfold BLB; rfl
theorem zq7x {P Q : Prop} {b : Bool} : BLB (!b) P Q = BLB b Q P := by cases b <;> simp [zq7v, zq7w]
@[irreducible] def LSA (b : Bool) (P : Prop) : Prop := b = true ∧ P
theorem zq7y {P : Prop} {c : Bool × PyData} : LSA (lstAt (c :: (true, .list ds) :: cs) 1) P = (ds.length < sizeLine ∧ P) := by
  unfold LSA lstAt
  simp
theorem zq7z : lend [] = [] := rfl
theorem zq80 {s : Sl} : lend (s :: ρ) = lend1 s :: lend ρ := rfl
theorem zq81 : lend1 .no = .no := rfl
theorem zq82 : lend1 (.val d) = .val d := rfl
theorem zq83 : lend1 (.own d) = .bor d := rfl
theorem zq84 : lend1 (.inn d) = .bor d := rfl
theorem zq85 : lend1 (.bor d) = .bor d := rfl
theorem zq86 : lend1 (.fix d) = .fix d := rfl
theorem zq87 : peek j cs ρ = (lend ρ).set j (.val (.tuple (cs.map (·.2)))) := rfl
def KBT (j : Nat) (d1 : PyData) (k : Nat) (ge : En → Res (List Op)) (cs : Cs) (ρ : En) (Q : Out → Prop) : Bool → En → Prop := fun b _ => BLB b (Q (.rt (.v d1) (ρ.set j .no))) (LSA (lstAt cs k) (WE ge (peek j cs ρ) nX fun _ _ => Q (.nx (ρ.set j .no))))
def KBL (j : Nat) (t : En → Res Bool) (d1 : PyData) (k : Nat) (ge : En → Res (List Op)) (Q : Out → Prop) : Cs → En → Prop := fun cs ρ => FRE ρ[j]? (WE t (peek j cs ρ) nX (KBT j d1 k ge cs ρ Q))
theorem kbl {t : En → Res Bool} {d1 : PyData} {ge : En → Res (List Op)} {k : Nat} : KBL j t d1 k ge QS cs ρ = FRE ρ[j]? (WE t (peek j cs ρ) nX (KBT j d1 k ge cs ρ QS)) := nr (by with_unfolding_all rfl)
theorem kbt {d1 : PyData} {ge : En → Res (List Op)} {k : Nat} {b : Bool} {ρ' : En} : KBT j d1 k ge cs ρ QS b ρ' = BLB b (QS (.rt (.v d1) (ρ.set j .no))) (LSA (lstAt cs k) (WE ge (peek j cs ρ) nX fun _ _ => QS (.nx (ρ.set j .no)))) := nr (by with_unfolding_all rfl)
theorem zq3s {t : En → Res Bool} {d1 : PyData} {ge : En → Res (List Op)} {k : Nat} : WS (sBlk j fc t d1 k ge) ρ QS = WE fc ρ (XS QS) (KBL j t d1 k ge QS) := by
  unfold sBlk; rw [zq20]
  congr 1; funext cs ρ1
  unfold KS KBL WS FRE NB blkK
  try dsimp only
  cases ρ1[j]? with
  | none => rfl
  | some s =>
    dsimp only
    cases s.free with
    | false => simp
    | true =>
      simp only [if_true, true_and]
      unfold WE
      cases t (peek j cs ρ1) with
      | bad => rfl
      | exc c r => rfl
      | ok b r =>
        dsimp only
        unfold KBT
        cases b with
        | true => rw [zq7v]
        | false =>
          rw [zq7w]
          dsimp only
          unfold LSA
          cases lstAt cs k with
          | false => simp
          | true =>
            simp only [if_true, true_and]
            unfold WE
            cases ge (peek j cs ρ1) with
            | bad => rfl
            | exc c r => rfl
            | ok os r => rfl
/-! truth -/
def TRK (o : Option Bool) (ρ : En) (Q : Bool → En → Prop) : Prop := match o with
  | some b => Q b ρ
  | none => False
theorem trk {b : Bool} {QB : Bool → En → Prop} : TRK (some b) ρ QB = QB b ρ := nr (by with_unfolding_all rfl)
def KTR (Q : Bool → En → Prop) : PyData → En → Prop := fun d ρ => TRK (trD d) ρ Q
theorem ktr {QB : Bool → En → Prop} : KTR QB d ρ = TRK (trD d) ρ QB := nr (by with_unfolding_all rfl)
theorem zq3p {QB : Bool → En → Prop} : WE (trO o) ρ X QB = WE (rdd o) ρ X (KTR QB) := by
  unfold trO; rw [zq00]
  congr 1; funext d ρ1
  unfold KB KTR WE TRK
  dsimp only
  generalize trD d = q
  cases q with
  | none => rfl
  | some p => rfl
theorem zq3q {QB : Bool → En → Prop} : WE (sTru f) ρ X QB = WE f ρ X (KB (fun o => bnd (trO o) fun b ρ => .ok b ρ) X QB) := by unfold sTru; rw [zq00]
theorem zq3r : WE (sOrT f1 f2) ρ X QO = WE f1 ρ X (KB (fun o => bnd (trO o) fun b => if b = true then fun ρ => .ok o ρ else f2) X QO) := by unfold sOrT; rw [zq00]
theorem zq7n : trD .none = some false := rfl
theorem zq7o {b : Bool} : trD (.bool b) = some b := rfl
theorem zq7p {i : Int} : trD (.int i) = some (i != 0) := rfl
theorem zq7q : trD (.list ds) = some (!ds.isEmpty) := rfl
theorem zq7r : trD (.tuple ds) = some (!ds.isEmpty) := rfl
/-! range down, sum -/
@[irreducible] def RG3 (i j c : Int) (ρ : En) (Q : List PyData × List Op → En → Prop) : Prop := (c = -1 ∧ -(2 ^ 62) ≤ i ∧ i < 2 ^ 62 ∧ -(2 ^ 62) ≤ j ∧ j < 2 ^ 62) ∧ Q (rngD i (i - j).toNat, []) ρ
theorem zq3o {i j c : Int} {QI : List PyData × List Op → En → Prop} : WE (r3 [.int i, .int j, .int c]) ρ X QI = RG3 i j c ρ QI := by
  unfold WE r3 RG3
  dsimp only
  by_cases h : c = -1 ∧ -(2 ^ 62) ≤ i ∧ i < 2 ^ 62 ∧ -(2 ^ 62) ≤ j ∧ j < 2 ^ 62
  · rw [if_pos h]; exact propext ⟨fun q => ⟨h, q⟩, fun q => q.2⟩
  · rw [if_neg h]; exact propext ⟨fun q => q.elim, fun q => h q.1⟩
theorem zq3n {QI : List PyData × List Op → En → Prop} : WE (sRng3 gs) ρ X QI = WE gs ρ X (KB (fun os => bnd (rdds os) r3) X QI) := by unfold sRng3; rw [zq00]
theorem rg3_of {i j : Int} {QI : List PyData × List Op → En → Prop} (h : -1000000000 < i ∧ i < 1000000000 ∧ -1000000000 < j ∧ j < 1000000000) (q : QI (rngD i (i - j).toNat, []) ρ) : RG3 i j (-1) ρ QI := by
  unfold RG3
  exact ⟨by omega, q⟩
theorem intsD_n : intsD [] = some [] := rfl
theorem intsD_map (ns : List Int) : intsD (ns.map PyData.int) = some ns := by
  induction ns with
  | nil => rfl
  | cons n ns ih => rw [List.map_cons, intsD, ih]; rfl
theorem pSum_ints (ns : List Int) : pSum [.list (ns.map PyData.int)] = some (.v (.int ns.sum)) := by
  show (intsD (ns.map PyData.int)).map (fun ns => Op.v (.int ns.sum)) = _
  rw [intsD_map]; rfl
end
end Py
end L2

namespace L2
namespace Py
open PySem PySem.Spec PyProof.Rows
section
variable {ds : List PyData}
theorem zq8d : pRev2 (.list ds) = some (.fr (.list ds.reverse)) := nr (by with_unfolding_all rfl)
theorem zq8e : pRev2 (.tuple ds) = some (.v (.tuple ds.reverse)) := nr (by with_unfolding_all rfl)
theorem pLstS_s {z : Str} (h : z.length ≤ sizeLine) : pLstS [.str z] = some (.fr (.list (z.cps.toList.map strD))) := by
  show (if z.length ≤ sizeLine then _ else _) = _
  rw [if_pos h]
end
section
variable {ρ : En} {g : PyData → En → Res Unit} {t : En → Res Bool} {f : En → Res Op} {vs : List Nat} {QL : List PyData → En → Prop} {b : En → Out} {QS : Out → Prop}
/-- a comprehension over any data that gives truths -/
theorem lcs_bool (B : PyData → Bool) (ds : List PyData) (hs : ds.length ≤ 1000) (h : ∀ d ∈ ds, LT g t f vs d ρ fun r ρ' => r = some (.bool (B d)) ∧ ρ' = ρ) (q : QL ((ds.map B).map PyData.bool) ρ) : LCS g t f vs ds ρ QL := by
  have := lcs_all (QL := QL) id (fun d => .bool (B d)) ds hs h (by rw [show ds.map (fun d => PyData.bool (B d)) = (ds.map B).map PyData.bool by rw [List.map_map]; rfl]; exact q)
  rwa [List.map_id] at this
theorem pAll_map (B : PyData → Bool) (ds : List PyData) : pAll [.list ((ds.map B).map PyData.bool)] = some (.v (.bool (ds.all B))) := by
  rw [pAll_bools, List.all_map]; rfl
theorem pAny_map (B : PyData → Bool) (ds : List PyData) : pAny [.list ((ds.map B).map PyData.bool)] = some (.v (.bool (ds.any B))) := by
  rw [pAny_bools, List.any_map]; rfl
theorem atI_pick {α : Type} {xs : List α} {i : Int} (h0 : 0 ≤ i) (h1 : i < xs.length) : ∃ x, x ∈ xs ∧ atI xs i = some x := by
  obtain ⟨n, rfl⟩ : ∃ n : Nat, i = n := ⟨i.toNat, by omega⟩
  have hn : n < xs.length := by omega
  exact ⟨xs[n], List.getElem_mem hn, atI_nat hn⟩
end
/-- a thing picked of a list, by what all of them are -/
theorem opk_pick {L : List PyData} {i : Int} {ρ : En} {Q : Op → En → Prop} (B : PyData → Bool) (h0 : 0 ≤ i) (h1 : i < L.length) (hB : L.all B = true) (h : ∀ d ∈ L, B d = true → Q (.v d) ρ) : OPK ((atI L i).map Op.v) ρ Q := by
  obtain ⟨x, mx, ex⟩ := atI_pick h0 h1
  rw [ex]
  show Q (.v x) ρ
  exact h x mx (List.all_eq_true.mp hB x mx)
/-! ### rising lists without doubles -/
section
variable {α : Type} (lt : α → α → Bool)
structure LtOk : Prop where
  irr : ∀ a, lt a a = false
  tr : ∀ a b c, lt a b = true → lt b c = true → lt a c = true
  tri : ∀ a b, lt a b = false → lt b a = false → a = b
def insU (x : α) : List α → List α
  | [] => [x]
  | y :: ys => if lt x y = true then x :: y :: ys else if lt y x = true then y :: insU x ys else y :: ys
def setU (xs : List α) : List α := xs.foldr (insU lt) []
variable {lt}
theorem insU_mem (o : LtOk lt) (x z : α) : ∀ ys, z ∈ insU lt x ys ↔ z = x ∨ z ∈ ys
  | [] => by simp [insU]
  | y :: ys => by
    unfold insU
    split
    · simp
    · rename_i h1
      split
      · rw [List.mem_cons, insU_mem o x z ys, List.mem_cons]
        constructor
        · rintro (h | h | h)
          · exact .inr (.inl h)
          · exact .inl h
          · exact .inr (.inr h)
        · rintro (h | h | h)
          · exact .inr (.inl h)
          · exact .inl h
          · exact .inr (.inr h)
      · rename_i h2
        have e := o.tri x y (by simpa using h1) (by simpa using h2)
        subst e
        simp
theorem insU_ris (o : LtOk lt) (x : α) : ∀ ys, ys.Pairwise (fun a b => lt a b = true) → (insU lt x ys).Pairwise (fun a b => lt a b = true)
  | [], _ => List.pairwise_singleton _ _
  | y :: ys, h => by
    unfold insU
    split
    · rename_i h1
      refine List.pairwise_cons.mpr ⟨fun z mz => ?_, h⟩
      rcases List.mem_cons.mp mz with e | m
      · rw [e]; exact h1
      · exact o.tr _ _ _ h1 ((List.pairwise_cons.mp h).1 z m)
    · split
      · rename_i h1 h2
        refine List.pairwise_cons.mpr ⟨fun z mz => ?_, insU_ris o x ys (List.pairwise_cons.mp h).2⟩
        rcases (insU_mem o x z ys).mp mz with e | m
        · rw [e]; exact h2
        · exact (List.pairwise_cons.mp h).1 z m
      · exact h
theorem setU_mem (o : LtOk lt) (z : α) : ∀ xs, z ∈ setU lt xs ↔ z ∈ xs
  | [] => by simp [setU]
  | x :: xs => by
    have := setU_mem o z xs
    unfold setU at *
    rw [List.foldr_cons, insU_mem o, this, List.mem_cons]
theorem setU_ris (o : LtOk lt) : ∀ xs, (setU lt xs).Pairwise (fun a b => lt a b = true)
  | [] => .nil
  | x :: xs => insU_ris o x _ (setU_ris o xs)
theorem ris_uniq (o : LtOk lt) : ∀ {xs ys : List α}, xs.Pairwise (fun a b => lt a b = true) → ys.Pairwise (fun a b => lt a b = true) → (∀ z, z ∈ xs ↔ z ∈ ys) → xs = ys
  | [], [], _, _, _ => rfl
  | [], y :: ys, _, _, h => absurd ((h y).mpr List.mem_cons_self) (by simp)
  | x :: xs, [], _, _, h => absurd ((h x).mp List.mem_cons_self) (by simp)
  | x :: xs, y :: ys, hx, hy, h => by
    have px := List.pairwise_cons.mp hx
    have py := List.pairwise_cons.mp hy
    have e : x = y := by
      rcases List.mem_cons.mp ((h x).mp List.mem_cons_self) with e | m1
      · exact e
      · rcases List.mem_cons.mp ((h y).mpr List.mem_cons_self) with e | m2
        · exact e.symm
        · have a := o.tr _ _ _ (px.1 y m2) (py.1 x m1)
          rw [o.irr] at a; cases a
    subst e
    congr 1
    refine ris_uniq o px.2 py.2 fun z => ⟨fun m => ?_, fun m => ?_⟩
    · rcases List.mem_cons.mp ((h z).mp (List.mem_cons_of_mem _ m)) with e | m'
      · have a := px.1 z m
        rw [e, o.irr] at a; cases a
      · exact m'
    · rcases List.mem_cons.mp ((h z).mpr (List.mem_cons_of_mem _ m)) with e | m'
      · have a := py.1 z m
        rw [e, o.irr] at a; cases a
      · exact m'
theorem setU_eq (o : LtOk lt) {xs ys : List α} (hy : ys.Pairwise (fun a b => lt a b = true)) (h : ∀ z, z ∈ ys ↔ z ∈ xs) : setU lt xs = ys :=
  ris_uniq o (setU_ris o xs) hy fun z => (setU_mem o z xs).trans (h z).symm
theorem insU_len (x : α) : ∀ ys, (insU lt x ys).length ≤ ys.length + 1
  | [] => Nat.le_refl _
  | y :: ys => by
    unfold insU
    have := insU_len x ys
    split
    · simp
    · split
      · simp; omega
      · simp
theorem setU_len : ∀ xs : List α, (setU lt xs).length ≤ xs.length
  | [] => Nat.le_refl _
  | x :: xs => by
    have h1 := insU_len (lt := lt) x (setU lt xs)
    have h2 := setU_len xs
    show (insU lt x (setU lt xs)).length ≤ _
    rw [List.length_cons]; omega
end
def ltI (a b : Int) : Bool := decide (a < b)
theorem ltI_ok : LtOk ltI := ⟨fun a => by simp [ltI], fun a b c => by simp only [ltI, decide_eq_true_eq]; omega, fun a b => by simp only [ltI, decide_eq_false_iff_not]; omega⟩
def ltL : List Int → List Int → Bool
  | [], [] => false
  | [], _ :: _ => true
  | _ :: _, [] => false
  | a :: as, b :: bs => decide (a < b) || (decide (a = b) && ltL as bs)
theorem ltL_irr : ∀ a, ltL a a = false
  | [] => rfl
  | a :: as => by simp [ltL, ltL_irr as]
theorem ltL_tr : ∀ a b c, ltL a b = true → ltL b c = true → ltL a c = true
  | _, [], [], _, h => by cases h
  | [], _ :: _, _ :: _, _, _ => rfl
  | [], [], _ :: _, h, _ => by cases h
  | _ :: _, [], _ :: _, h, _ => by cases h
  | _ :: _, _ :: _, [], _, h => by cases h
  | [], _ :: _, [], _, h => by cases h
  | a :: as, b :: bs, c :: cs, h1, h2 => by
    simp only [ltL, Bool.or_eq_true, Bool.and_eq_true, decide_eq_true_eq] at *
    rcases h1 with h1 | ⟨e1, h1⟩ <;> rcases h2 with h2 | ⟨e2, h2⟩
    · exact .inl (by omega)
    · exact .inl (by omega)
    · exact .inl (by omega)
    · exact .inr ⟨by omega, ltL_tr as bs cs h1 h2⟩
theorem ltL_tri : ∀ a b, ltL a b = false → ltL b a = false → a = b
  | [], [], _, _ => rfl
  | [], _ :: _, h, _ => by cases h
  | _ :: _, [], _, h => by cases h
  | a :: as, b :: bs, h1, h2 => by
    simp only [ltL, Bool.or_eq_false_iff, Bool.and_eq_false_iff, decide_eq_false_iff_not] at *
    have e : a = b := by omega
    subst e
    rw [ltL_tri as bs (by simpa using h1.2) (by simpa using h2.2)]
theorem ltL_ok : LtOk ltL := ⟨ltL_irr, ltL_tr, ltL_tri⟩
/-! while -/
def wq (k : En → Out) (Q : Out → Prop) : Out → Prop
  | .nx ρ => WS k ρ Q
  | .ct ρ => WS k ρ Q
  | .bk ρ => Q (.nx ρ)
  | o => Q o
section
variable {ρ : En} {b k : En → Out} {t : En → Res Bool} {QS : Out → Prop} {n : Nat} {X : XQ} {QO : Op → En → Prop} {o : Op} {p : Str → PyData → Option Op} {f g : En → Res Op} {a z : Str} {ds : List PyData} {i : Int}
theorem zq3x : WS (whB b k) ρ QS = WS b ρ (wq k QS) := by
  unfold WS whB wq; try dsimp only
  generalize b ρ = o; cases o <;> with_unfolding_all rfl
theorem zq3y : wq k QS (.nx ρ) = WS k ρ QS := nr (by with_unfolding_all rfl)
theorem zq3z : wq k QS (.ct ρ) = WS k ρ QS := nr (by with_unfolding_all rfl)
theorem zq40 : wq k QS (.bk ρ) = QS (.nx ρ) := nr (by with_unfolding_all rfl)
theorem zq41 : wq k QS (.rt o ρ) = QS (.rt o ρ) := nr (by with_unfolding_all rfl)
/-- one turn of a while -/
theorem ws_wh : WS (sWhile (n + 1) t b) ρ QS = WE t ρ (XS QS) (KS (fun c => if c = true then whB b (sWhile n t b) else fun ρ => .nx ρ) QS) := by
  show WS (andS t _) ρ QS = _
  rw [zq20]
theorem zq42 : WE (sM1 p f g) ρ X QO = WE f ρ X (KB (fun o1 => bnd (rdd o1) fun d => match d with
  | .str z => bnd g fun o2 => bnd (rdd o2) fun e => opt (p z e)
  | _ => fun _ => .bad) X QO) := by unfold sM1; rw [zq00] <;> with_unfolding_all rfl
theorem zq43 {QI : List PyData × List Op → En → Prop} : WE (sItrS f) ρ X QI = WE f ρ X (KB (fun o => bnd (rdd o) fun d ρ => match d with
  | .str z => .ok (z.cps.toList.map strD, []) ρ
  | _ => .bad) X QI) := by unfold sItrS; rw [zq00] <;> with_unfolding_all rfl
theorem zq8f : pStrOf [.str a] = some (.v (.str a)) := nr (by with_unfolding_all rfl)
theorem pStrOf_i : pStrOf [.int i] = if i.natAbs.log2 < 1920 then some (.v (.str (Str.ofString (toString i)))) else none := nr (by with_unfolding_all rfl)
theorem zq8g : pJoin a (.list ds) = joinP a ds := nr (by with_unfolding_all rfl)
theorem zq8h : pJoin a (.tuple ds) = joinP a ds := nr (by with_unfolding_all rfl)
theorem pSl_s {lo hi : Option Int} : pSl (.str z) lo hi = if z.length ≤ sizeLine then some (.v (.str (cutS z lo hi))) else none := nr (by with_unfolding_all rfl)
end
/-! sorting -/
theorem dataLt_L (a b : Nat) : PySem.W.dataLt (encL a) (encL b) = decide (a < b) := by
  unfold encL
  rw [PySem.W.dataLt_str]
  show decide ([a] < [b]) = _
  congr 1
  apply propext
  constructor
  · intro h
    cases h with
    | rel h => exact h
    | cons h => cases h
  · intro h; exact List.Lex.rel h
theorem pLt_L (a b : Nat) : pLt (encL a) (encL b) = some (.v (.bool (decide (a < b)))) := by
  have e : pLt (encL a) (encL b) = if okL (encL a) (encL b) = true then some (.v (.bool (PySem.W.dataLt (encL a) (encL b)))) else none := nr (by with_unfolding_all rfl)
  have ok : okL (encL a) (encL b) = true := by simp [okL, encL, PySem.W.alike, PyData.depth]
  rw [e, if_pos ok, dataLt_L]
theorem sort_lt {γ : Type} {lt : γ → γ → Bool} (o : LtOk lt) (enc : γ → PyData) (xs : List γ) (ok : okS (xs.map enc) = true) (h : ∀ a b, PySem.W.dataLt (enc a) (enc b) = lt a b) : ∃ ys : List γ, pSorted [.list (xs.map enc)] = some (.fr (.list (ys.map enc))) ∧ ys.Perm xs ∧ ys.Pairwise fun a b => lt b a = false := by
  refine ⟨xs.mergeSort fun a b => !lt b a, ?_, List.mergeSort_perm _ _, ?_⟩
  · show (if okS (xs.map enc) = true then some (Op.fr (.list (sortD (xs.map enc)))) else none) = _
    rw [if_pos ok]
    unfold sortD
    rw [List.map_mergeSort (r := fun a b => !lt b a) (s := PySem.W.dataLe false id)]
    intro a _ b _
    show _ = !PySem.W.dataLt (enc b) (enc a)
    rw [h]
  · refine (List.pairwise_mergeSort (le := fun a b => !lt b a) ?_ ?_ xs).imp fun {a b} h => by simpa using h
    · intro a b c h1 h2
      have h1 : lt b a = false := by simpa using h1
      have h2 : lt c b = false := by simpa using h2
      cases q : lt c a with
      | false => rfl
      | true =>
        cases q2 : lt a b with
        | true => rw [o.tr c a b q q2] at h2; cases h2
        | false => rw [o.tri a b q2 h1] at q; rw [q] at h2; cases h2
    · intro a b
      cases q : lt b a with
      | false => rfl
      | true =>
        cases q2 : lt a b with
        | false => rfl
        | true => have := o.tr _ _ _ q q2; rw [o.irr] at this; cases this
def ltV2 (p q : Nat × Int) : Bool := decide (p.1 < q.1 ∨ (p.1 = q.1 ∧ p.2 < q.2))
theorem ltV2_ok : LtOk ltV2 := ⟨fun a => by simp [ltV2], fun a b c h1 h2 => by simp only [ltV2, decide_eq_true_eq] at *; omega, fun a b h1 h2 => by
  simp only [ltV2, decide_eq_false_iff_not] at *
  exact Prod.ext (by omega) (by omega)⟩
theorem dataLt_V (a b : Nat) (x y : Int) : PySem.W.dataLt (.tuple [encL a, .int x]) (.tuple [encL b, .int y]) = ltV2 (a, x) (b, y) := by
  rw [PySem.W.dataLt_pair (by simp [encL, PySem.W.alike]) (by simp [PySem.W.alike]), dataLt_L, PySem.W.dataLt_int]
  unfold ltV2 encL
  rw [eqv_str, eqv_int, beqL]
  by_cases h : a = b
  · subst h
    by_cases h2 : x = y
    · subst h2; simp
    · simp [h2]
  · have : (a == b) = false := by simpa using h
    simp only [this, Bool.false_eq_true, if_false, h, false_and, or_false]
theorem okS_V2 {γ : Type} (k : γ → Nat) (v : γ → Int) (vs : List γ) : okS (vs.map fun p => .tuple [encL (k p), .int (v p)]) = true := by
  unfold okS
  have hd : PyData.depthAll (vs.map fun p => .tuple [encL (k p), .int (v p)]) ≤ 60 := by
    have : PyData.depthAll (vs.map fun p => .tuple [encL (k p), .int (v p)]) ≤ 1 := depthAll_map fun c _ => by simp [encL, PyData.depth, PyData.depthAll]
    omega
  simp only [Bool.and_eq_true, Bool.or_eq_true, List.all_eq_true, decide_eq_true_eq]
  refine ⟨⟨fun x hx y hy => ?_, .inl fun x hx => ?_⟩, hd⟩
  · obtain ⟨c, _, rfl⟩ := List.mem_map.mp hx
    obtain ⟨e, _, rfl⟩ := List.mem_map.mp hy
    simp [encL, PySem.W.alike, PySem.W.alikeAll]
  · obtain ⟨c, _, rfl⟩ := List.mem_map.mp hx
    rfl
end Py
end L2

namespace L2
namespace Py
open PySem PySem.Spec PyProof.Rows
section
variable {ρ : En} {a b : En → Out} {t0 t : En → Res Bool} {QS : Out → Prop} {k j : Nat} {fc : En → Res Cs} {cs : Cs} {d1 : PyData}
theorem ws_pick : WS (sPick k a b) ρ QS = if slotB k ρ = true then WS a ρ QS else WS b ρ QS := by
  unfold WS sPick; split <;> rfl
def ISF : Bool → En → Prop := fun b _ => b = false
theorem isf {c : Bool} : ISF c ρ = (c = false) := nr rfl
def KB2 (j : Nat) (t0 t : En → Res Bool) (Q : Out → Prop) : Cs → En → Prop := fun cs ρ => FRE ρ[j]? (WE t0 (peek j cs ρ) nX ISF ∧ WE t (peek j cs ρ) nX ISF ∧ two cs = true ∧ Q (.nx (ρ.set j .no)))
theorem kb2 : KB2 j t0 t QS cs ρ = FRE ρ[j]? (WE t0 (peek j cs ρ) nX ISF ∧ WE t (peek j cs ρ) nX ISF ∧ two cs = true ∧ QS (.nx (ρ.set j .no))) := nr rfl
/-- a told pair is looked at and both its lists changed -/
theorem ws_blk2 (h : WE fc ρ (XS QS) (KB2 j t0 t QS)) : WS (sBlk2 j fc t0 t d1) ρ QS := by
  unfold sBlk2; rw [zq20]
  unfold WE at h ⊢
  cases q : fc ρ with
  | bad => rw [q] at h; exact h
  | exc c r => rw [q] at h; exact h
  | ok cs ρ1 =>
    rw [q] at h
    have h : KB2 j t0 t QS cs ρ1 := h
    show KS (blk2K j t0 t d1) QS cs ρ1
    unfold KB2 FRE at h
    unfold KS WS NB blk2K
    try dsimp only
    cases e : ρ1[j]? with
    | none => rw [e] at h; exact h.elim
    | some s =>
      rw [e] at h
      obtain ⟨hf, h0, h1, h2, h3⟩ := h
      dsimp only
      rw [if_pos hf]
      unfold WE at h0 h1
      cases e0 : t0 (peek j cs ρ1) with
      | bad => rw [e0] at h0; exact h0.elim
      | exc c r => rw [e0] at h0; exact h0.elim
      | ok b0 r0 =>
        rw [e0] at h0
        have z : b0 = false := h0
        subst z
        dsimp only
        cases e1 : t (peek j cs ρ1) with
        | bad => rw [e1] at h1; exact h1.elim
        | exc c r => rw [e1] at h1; exact h1.elim
        | ok b1 r1 =>
          rw [e1] at h1
          have z : b1 = false := h1
          subst z
          dsimp only
          rw [if_pos h2]
          exact h3
end
/-! ## looking -/
section
variable {ρ ρ2 : En} {t : En → Res Bool} {j : Nat} {js : List Nat} {d : PyData} {X : XQ} {Q : Bool → En → Prop} {b : Bool}
def LKQ (ρ : En) (Q : Bool → En → Prop) : Bool → En → Prop := fun b _ => Q b ρ
theorem lkq : LKQ ρ Q b ρ2 = Q b ρ := nr rfl
def LKJ (o : Option En) (t : En → Res Bool) (ρ : En) (Q : Bool → En → Prop) : Prop := match o with
  | some ρ2 => WE t (lend ρ2) nX (LKQ ρ Q)
  | none => False
theorem lkj : LKJ (some ρ2) t ρ Q = WE t (lend ρ2) nX (LKQ ρ Q) := nr rfl
theorem zq46 : WE (sLook js t) ρ X Q = LKJ (frzJ js ρ) t ρ Q := by
  unfold WE sLook LKJ
  cases frzJ js ρ with
  | none => rfl
  | some ρ2 =>
    dsimp only
    unfold WE
    cases t (lend ρ2) <;> rfl
def FRJ (o : Option Sl) (j : Nat) (js : List Nat) (ρ : En) : Option En := match o with
  | some (.own d) => frzJ js (ρ.set j (.val d))
  | some (.val _) => frzJ js ρ
  | _ => none
theorem zq5k : frzJ [] ρ = some ρ := nr rfl
theorem zq5l : frzJ (j :: js) ρ = FRJ ρ[j]? j js ρ := nr rfl
theorem zq5m : FRJ (some (.own d)) j js ρ = frzJ js (ρ.set j (.val d)) := nr rfl
theorem zq5n : FRJ (some (.val d)) j js ρ = frzJ js ρ := nr rfl
end
/-! ## dicts whose keys are tuples -/
section
variable {ρ : En} {j : Nat} {f1 f2 : En → Res Op} {k d : PyData} {kvs : List (PyData × PyData)} {X : XQ} {QU : Unit → En → Prop} {QS : Out → Prop} {n : Bool → Bool}
theorem zq44 : WS (sSetN j f1 f2) ρ QS = WS (unS (bnd f2 fun o => bnd (fz o) fun d => bnd (sHas j) fun _ => bnd f1 fun oi => bnd (rdd oi) fun k => mutN j k d)) ρ QS := nr (by with_unfolding_all rfl)
def MN (j : Nat) (k d : PyData) (o : Option Sl) (ρ : En) (Q : Unit → En → Prop) : Prop := match o with
  | some (.own (.dict ds)) => (match putO k d ds with | some ds' => Q () (ρ.set j (.own (.dict ds'))) | none => False)
  | some (.inn (.dict ds)) => (match putO k d ds with | some ds' => Q () (ρ.set j (.inn (.dict ds'))) | none => False)
  | _ => False
theorem zq5i : MN j k d (some (.own (.dict kvs))) ρ QU = MDo j (putO k d kvs) ρ QU := by unfold MN MDo; rfl
theorem zq5j : MN j k d (some (.inn (.dict kvs))) ρ QU = MDi j (putO k d kvs) ρ QU := by unfold MN MDi; rfl
theorem zq45 : WE (mutN j k d) ρ X QU = MN j k d ρ[j]? ρ QU := by
  unfold WE mutN MN
  generalize ρ[j]? = q
  cases q with
  | none => rfl
  | some s => cases s with
    | own dd => cases dd with
      | dict ds => dsimp only; generalize putO k d ds = o; cases o <;> rfl
      | _ => rfl
    | inn dd => cases dd with
      | dict ds => dsimp only; generalize putO k d ds = o; cases o <;> rfl
      | _ => rfl
    | _ => rfl
theorem putO_of (h1 : (keyT k).isSome = true) (h2 : okN kvs = true) (h3 : kvs.length < 1000) : putO k d kvs = some (putN kvs k d) := by
  unfold putO
  rw [if_pos ⟨h1, h2, small1000 (by omega)⟩]
theorem pInN_of (h1 : (keyT k).isSome = true) (h2 : okN kvs = true) : pInN n k (.dict kvs) = some (.v (.bool (n (lookN kvs k).isSome))) := by
  show (if (keyT k).isSome = true ∧ okN kvs = true then _ else _) = _
  rw [if_pos ⟨h1, h2⟩]
theorem pIxN_of (h1 : (keyT k).isSome = true) (h2 : okN kvs = true) : pIxN (.dict kvs) k = (lookN kvs k).map .v := by
  show (if (keyT k).isSome = true ∧ okN kvs = true then _ else _) = _
  rw [if_pos ⟨h1, h2⟩]
theorem zq8i : pValsD (.dict kvs) = pVals kvs := nr (by with_unfolding_all rfl)
end
/-- a tuple of ints -/
def encT (k : List Int) : PyData := .tuple (k.map PyData.int)
theorem keysN_ints : ∀ ns : List Int, keysN (ns.map PyData.int) = some (ns.map NestedKey.num)
  | [] => rfl
  | n :: ns => by rw [List.map_cons, keysN, keysN_ints ns]; rfl
theorem keysN_tups : ∀ g : List (List Int), keysN (g.map encT) = some (g.map fun s => NestedKey.tup (s.map NestedKey.num))
  | [] => rfl
  | s :: g => by
    rw [List.map_cons, keysN, keysN_tups g]
    have : keyN (encT s) = some (NestedKey.tup (s.map NestedKey.num)) := by
      unfold encT keyN; rw [keysN_ints]; rfl
    rw [this]; rfl
theorem depth_nums : ∀ ns : List Int, NestedKey.depthAll (ns.map NestedKey.num) = 0
  | [] => rfl
  | n :: ns => by rw [List.map_cons, NestedKey.depthAll, depth_nums ns]; rfl
theorem depth_tups : ∀ g : List (List Int), NestedKey.depthAll (g.map fun s => NestedKey.tup (s.map NestedKey.num)) ≤ 1
  | [] => Nat.zero_le _
  | s :: g => by
    rw [List.map_cons, NestedKey.depthAll, NestedKey.depth, depth_nums]
    have := depth_tups g
    omega
theorem keyT_ints (ns : List Int) : keyT (encT ns) = some (.tup (ns.map NestedKey.num)) := by
  have e : keyN (encT ns) = some (NestedKey.tup (ns.map NestedKey.num)) := by unfold encT keyN; rw [keysN_ints]; rfl
  show (keyN (encT ns)).bind _ = _
  rw [e, Option.bind_some, if_pos]
  rw [NestedKey.depth, depth_nums]; omega
theorem keyT_tups (g : List (List Int)) : keyT (.tuple (g.map encT)) = some (.tup (g.map fun s => NestedKey.tup (s.map NestedKey.num))) := by
  have e : keyN (.tuple (g.map encT)) = some (NestedKey.tup (g.map fun s => NestedKey.tup (s.map NestedKey.num))) := by unfold keyN; rw [keysN_tups]; rfl
  show (keyN (.tuple (g.map encT))).bind _ = _
  rw [e, Option.bind_some, if_pos]
  have := depth_tups g
  rw [NestedKey.depth]; omega
theorem num_inj : ∀ {a b : List Int}, a.map NestedKey.num = b.map NestedKey.num → a = b
  | [], [], _ => rfl
  | x :: a, y :: b, h => by
    rw [List.map_cons, List.map_cons] at h
    injection h with h1 h2
    injection h1 with h1
    rw [h1, num_inj h2]
  | [], _ :: _, h => nomatch h
  | _ :: _, [], h => nomatch h
theorem tup_inj : ∀ {a b : List (List Int)}, (a.map fun s => NestedKey.tup (s.map NestedKey.num)) = (b.map fun s => NestedKey.tup (s.map NestedKey.num)) → a = b
  | [], [], _ => rfl
  | x :: a, y :: b, h => by
    rw [List.map_cons, List.map_cons] at h
    injection h with h1 h2
    injection h1 with h1
    rw [num_inj h1, tup_inj h2]
  | [], _ :: _, h => nomatch h
  | _ :: _, [], h => nomatch h
theorem eqN_ints (a b : List Int) : eqN (encT a) (encT b) = decide (a = b) := by
  rw [eqN_key (keyT_ints a) (keyT_ints b), ← beq_dec]
  by_cases h : a = b
  · subst h; simp
  · rw [decide_eq_false h, decide_eq_false]
    intro z; injection z with z; exact h (num_inj z)
theorem eqN_tups (a b : List (List Int)) : eqN (.tuple (a.map encT)) (.tuple (b.map encT)) = decide (a = b) := by
  rw [eqN_key (keyT_tups a) (keyT_tups b), ← beq_dec]
  by_cases h : a = b
  · subst h; simp
  · rw [decide_eq_false h, decide_eq_false]
    intro z; injection z with z; exact h (tup_inj z)
/-- a dict with keys of one kind -/
def encDN {α : Type} (enc : α → PyData) (ps : List (α × PyData)) : List (PyData × PyData) := ps.map fun p => (enc p.1, p.2)
def lookA {α : Type} [DecidableEq α] (ps : List (α × PyData)) (k : α) : Option PyData := (ps.find? fun p => decide (p.1 = k)).map (·.2)
def putA {α : Type} [DecidableEq α] (ps : List (α × PyData)) (k : α) (v : PyData) : List (α × PyData) :=
  if (ps.any fun p => decide (p.1 = k)) = true then ps.map (fun p => if p.1 = k then (p.1, v) else p) else ps ++ [(k, v)]
section
variable {α : Type} [DecidableEq α] {enc : α → PyData} (he : ∀ a b, eqN (enc a) (enc b) = decide (a = b))
include he
theorem lookN_enc (ps : List (α × PyData)) (k : α) : lookN (encDN enc ps) (enc k) = lookA ps k := by
  unfold lookN lookA encDN
  rw [List.find?_map, Option.map_map]
  congr 1
  congr 1
  funext p
  simp only [Function.comp, he]
theorem putN_enc (ps : List (α × PyData)) (k : α) (v : PyData) : putN (encDN enc ps) (enc k) v = encDN enc (putA ps k v) := by
  unfold putN putA encDN
  have e : ((ps.map fun p => (enc p.1, p.2)).any fun p => eqN p.1 (enc k)) = ps.any fun p => decide (p.1 = k) := by
    rw [List.any_map]; congr 1; funext p; simp only [Function.comp, he]
  rw [e]
  split
  · rw [List.map_map, List.map_map]
    refine List.map_congr_left fun p _ => ?_
    simp only [Function.comp, he, decide_eq_true_eq]
    split <;> rfl
  · rw [List.map_append]; rfl
omit he
theorem okN_enc (ht : ∀ a, ∃ ds, enc a = .tuple ds) : ∀ ps : List (α × PyData), okN (encDN enc ps) = true
  | [] => rfl
  | p :: ps => by
    obtain ⟨ds, e⟩ := ht p.1
    show (nestD ((enc p.1, p.2) :: encDN enc ps) || _) = true
    rw [e]; rfl
theorem putA_len (ps : List (α × PyData)) (k : α) (v : PyData) : (putA ps k v).length ≤ ps.length + 1 := by
  unfold putA; split
  · rw [List.length_map]; omega
  · rw [List.length_append]; exact Nat.le_refl _
theorem putA_mem {ps : List (α × PyData)} {k : α} {v : PyData} {p : α × PyData} (h : p ∈ putA ps k v) : p ∈ ps ∨ p = (k, v) := by
  unfold putA at h
  split at h
  · obtain ⟨q, mq, e⟩ := List.mem_map.mp h
    split at e
    · rename_i hk; subst e; right; rw [hk]
    · subst e; exact .inl mq
  · rcases List.mem_append.mp h with h | h
    · exact .inl h
    · exact .inr (List.mem_singleton.mp h)
theorem lookA_put (ps : List (α × PyData)) (k x : α) (v : PyData) : lookA (putA ps k v) x = if x = k then some v else lookA ps x := by
  unfold putA
  split
  · rename_i h
    induction ps with
    | nil => simp at h
    | cons p ps ih =>
      unfold lookA at ih ⊢
      rw [List.map_cons, List.find?_cons, List.find?_cons]
      by_cases hp : p.1 = k
      · rw [if_pos hp]
        by_cases hx : x = k
        · subst hx; simp [hp]
        · have : ¬ p.1 = x := fun z => hx (z.symm.trans hp)
          simp only [this, decide_false, if_neg hx]
          by_cases ha : (ps.any fun p => decide (p.1 = k)) = true
          · have := ih ha; rw [if_neg hx] at this; exact this
          · have e : (ps.map fun p => if p.1 = k then (p.1, v) else p) = ps := by
              refine (List.map_congr_left fun q mq => ?_).trans (List.map_id _)
              have : ¬ q.1 = k := fun z => ha (List.any_eq_true.mpr ⟨q, mq, by simp [z]⟩)
              rw [if_neg this]; rfl
            rw [e]
      · rw [if_neg hp]
        have ha : (ps.any fun p => decide (p.1 = k)) = true := by simpa [hp] using h
        by_cases hq : p.1 = x
        · have hx : ¬ x = k := fun z => hp (hq.trans z)
          simp [hq, hx]
        · simp only [hq, decide_false]
          exact ih ha
  · rename_i h
    unfold lookA
    rw [List.find?_append]
    by_cases hx : x = k
    · subst hx
      have : ps.find? (fun p => decide (p.1 = x)) = none := List.find?_eq_none.mpr fun q mq z => h (List.any_eq_true.mpr ⟨q, mq, z⟩)
      rw [this]; simp
    · have : ¬ k = x := fun z => hx z.symm
      rw [if_neg hx]
      cases ps.find? (fun p => decide (p.1 = x)) with
      | none => simp [this]
      | some q => simp
end
/-! ## more walks and dicts -/
section
variable {ρ : En} {X : XQ} {QO : Op → En → Prop} {QI : List PyData × List Op → En → Prop} {f : En → Res Op} {i : Int} {kvs : List (PyData × PyData)}
theorem we_dic1 : WE (sDic1 i f) ρ X QO = WE f ρ X (KB (fun o => bnd (fz o) fun d ρ => .ok (.fr (.dict [(.int i, d)])) ρ) X QO) := by unfold sDic1; rw [zq00]
theorem we_itrR : WE (sItrR f) ρ X QI = WE (sItr f) ρ X (KB (fun p ρ => .ok (p.1.reverse, p.2) ρ) X QI) := by unfold sItrR; rw [zq00]
theorem pValsK_d (h : nestD kvs = false) (ok : okS (kvs.map (·.2)) = true) : pValsK (.dict kvs) = some (.fr (.list (sortD (kvs.map (·.2))))) := by
  show (if nestD kvs = true then none else if okS (kvs.map (·.2)) = true then some (Op.fr (.list (sortD (kvs.map (·.2))))) else none) = _
  rw [h, ok]; rfl
theorem pLRg_nat {n : Nat} (h : n ≤ 1000000) : pLRg (.int (n : Int)) = some (.fr (.list (rng 0 n))) := by
  show (if 0 ≤ (n : Int) ∧ (n : Int) ≤ 1000000 then some (Op.fr (.list (rng 0 (n : Int).toNat))) else none) = _
  rw [if_pos ⟨by omega, by omega⟩]; rfl
end
section
variable {ρ : En} {X : XQ} {QO : Op → En → Prop} {f0 f1 f2 : En → Res Op} {kvs : List (PyData × PyData)} {k x : PyData}
theorem we_getN : WE (sGetN f0 f1 f2) ρ X QO = WE f0 ρ X (KB (fun o0 => bnd (dctN o0) fun _ => bnd f1 fun o1 => bnd f2 fun o2 => bnd (fz o2) fun x => bnd (rdd o0) fun d0 => bnd (rdd o1) fun k => opt (pGetN d0 k x)) X QO) := by unfold sGetN; rw [zq00]
theorem pGetN_of (h1 : (keyT k).isSome = true) (h2 : okN kvs = true) : pGetN (.dict kvs) k x = some (.v ((lookN kvs k).getD x)) := by
  show (if (keyT k).isSome = true ∧ okN kvs = true then _ else _) = _
  rw [if_pos ⟨h1, h2⟩]
end
end Py
end L2

namespace L2
namespace Py
namespace k34
open PySem PySem.Spec PyProof.Rows
def topS (i : Nat) : Stmt := PySem.Challenge.pw_oathlog_k34_whole_logs_agree.main.body.getD i (.Pass ⟨0, 0, 0, 0⟩)
abbrev s_group_after : Stmt := topS 1
theorem sc_group_after : FnScope ["group", "row"] ["group", "row"] (defScope s_group_after) := ⟨rfl, rfl, rfl, by decide +kernel, rfl, by decide +kernel, by decide +kernel⟩
abbrev s_group_behind : Stmt := topS 2
theorem sc_group_behind : FnScope ["group", "rows", "row"] ["group", "rows"] (defScope s_group_behind) := ⟨rfl, rfl, rfl, by decide +kernel, rfl, by decide +kernel, by decide +kernel⟩
abbrev s_first_store : Stmt := topS 4
theorem sc_first_store : FnScope [] [] (defScope s_first_store) := ⟨rfl, rfl, rfl, by decide +kernel, rfl, by decide +kernel, by decide +kernel⟩
abbrev s_worth : Stmt := topS 5
theorem sc_worth : FnScope ["store", "key", "one", "value"] ["store", "key"] (defScope s_worth) := ⟨rfl, rfl, rfl, by decide +kernel, rfl, by decide +kernel, by decide +kernel⟩
abbrev s_last_of : Stmt := topS 6
theorem sc_last_of : FnScope ["store", "client", "one", "number", "answer"] ["store", "client"] (defScope s_last_of) := ⟨rfl, rfl, rfl, by decide +kernel, rfl, by decide +kernel, by decide +kernel⟩
abbrev s_with_one : Stmt := topS 7
theorem sc_with_one : FnScope ["things", "fresh", "one"] ["things", "fresh"] (defScope s_with_one) := ⟨rfl, rfl, rfl, by decide +kernel, rfl, by decide +kernel, by decide +kernel⟩
abbrev s_done : Stmt := topS 8
theorem sc_done : FnScope ["store", "row", "known", "values", "answer", "word", "client", "number", "deed"] ["store", "row"] (defScope s_done) := ⟨rfl, rfl, rfl, by decide +kernel, rfl, by decide +kernel, by decide +kernel⟩
abbrev s_all_done : Stmt := topS 9
theorem sc_all_done : FnScope ["store", "rows", "row"] ["store", "rows"] (defScope s_all_done) := ⟨rfl, rfl, rfl, by decide +kernel, rfl, by decide +kernel, by decide +kernel⟩
abbrev s_first_log : Stmt := topS 11
theorem sc_first_log : FnScope ["group"] ["group"] (defScope s_first_log) := ⟨rfl, rfl, rfl, by decide +kernel, rfl, by decide +kernel, by decide +kernel⟩
abbrev s_length : Stmt := topS 12
theorem sc_length : FnScope ["log"] ["log"] (defScope s_length) := ⟨rfl, rfl, rfl, by decide +kernel, rfl, by decide +kernel, by decide +kernel⟩
abbrev s_store_at : Stmt := topS 13
theorem sc_store_at : FnScope ["log", "count"] ["log", "count"] (defScope s_store_at) := ⟨rfl, rfl, rfl, by decide +kernel, rfl, by decide +kernel, by decide +kernel⟩
abbrev s_put : Stmt := topS 14
theorem sc_put : FnScope ["log", "row", "cut", "store", "group", "rows"] ["log", "row"] (defScope s_put) := ⟨rfl, rfl, rfl, by decide +kernel, rfl, by decide +kernel, by decide +kernel⟩
abbrev s_cut_at : Stmt := topS 15
theorem sc_cut_at : FnScope ["log", "count", "many", "cut", "store", "group", "rows"] ["log", "count"] (defScope s_cut_at) := ⟨rfl, rfl, rfl, by decide +kernel, rfl, by decide +kernel, by decide +kernel⟩
abbrev s_does_agree : Stmt := topS 16
theorem sc_does_agree : FnScope ["log", "group", "rows", "cut", "store", "behind", "mine"] ["log", "group", "rows"] (defScope s_does_agree) := ⟨rfl, rfl, rfl, by decide +kernel, rfl, by decide +kernel, by decide +kernel⟩
abbrev s__law_cell_at : Stmt := topS 18
theorem sc__law_cell_at : FnScope ["_law_script", "_law_k"] ["_law_script", "_law_k"] (defScope s__law_cell_at) := ⟨rfl, rfl, rfl, by decide +kernel, rfl, by decide +kernel, by decide +kernel⟩
abbrev s__law_state : Stmt := topS 19
theorem sc__law_state : FnScope ["_law_cell", "_law_k"] ["_law_cell", "_law_k"] (defScope s__law_state) := ⟨rfl, rfl, rfl, by decide +kernel, rfl, by decide +kernel, by decide +kernel⟩
abbrev s__law_next : Stmt := topS 20
theorem sc__law_next : FnScope ["_law_state_here", "_law_many", "_law_mixed", "_law_found"] ["_law_state_here", "_law_many"] (defScope s__law_next) := ⟨rfl, rfl, rfl, by decide +kernel, rfl, by decide +kernel, by decide +kernel⟩
abbrev s__law_wide : Stmt := topS 21
theorem sc__law_wide : FnScope ["_law_state_here", "_law_wide_here", "_law_k"] ["_law_state_here"] (defScope s__law_wide) := ⟨rfl, rfl, rfl, by decide +kernel, rfl, by decide +kernel, by decide +kernel⟩
abbrev s__law_value : Stmt := topS 22
theorem sc__law_value : FnScope ["_law_state_here", "_law_way"] ["_law_state_here"] (defScope s__law_value) := ⟨rfl, rfl, rfl, by decide +kernel, rfl, by decide +kernel, by decide +kernel⟩
abbrev s__law_letter : Stmt := topS 23
theorem sc__law_letter : FnScope ["_law_state_here"] ["_law_state_here"] (defScope s__law_letter) := ⟨rfl, rfl, rfl, by decide +kernel, rfl, by decide +kernel, by decide +kernel⟩
abbrev s__law_deed : Stmt := topS 24
theorem sc__law_deed : FnScope ["_law_state_here", "_law_way", "_law_letter_here"] ["_law_state_here"] (defScope s__law_deed) := ⟨rfl, rfl, rfl, by decide +kernel, rfl, by decide +kernel, by decide +kernel⟩
abbrev s__law_small : Stmt := topS 25
theorem sc__law_small : FnScope ["_law_state_here", "_law_most"] ["_law_state_here", "_law_most"] (defScope s__law_small) := ⟨rfl, rfl, rfl, by decide +kernel, rfl, by decide +kernel, by decide +kernel⟩
abbrev s__law_set : Stmt := topS 26
theorem sc__law_set : FnScope ["_law_state_here", "_law_bits", "_law_house"] ["_law_state_here"] (defScope s__law_set) := ⟨rfl, rfl, rfl, by decide +kernel, rfl, by decide +kernel, by decide +kernel⟩
abbrev s__law_group : Stmt := topS 27
theorem sc__law_group : FnScope ["_law_state_here"] ["_law_state_here"] (defScope s__law_group) := ⟨rfl, rfl, rfl, by decide +kernel, rfl, by decide +kernel, by decide +kernel⟩
abbrev s__law_row : Stmt := topS 28
theorem sc__law_row : FnScope ["_law_state_here", "_law_sets"] ["_law_state_here", "_law_sets"] (defScope s__law_row) := ⟨rfl, rfl, rfl, by decide +kernel, rfl, by decide +kernel, by decide +kernel⟩
abbrev s__law_one_done : Stmt := topS 29
theorem sc__law_one_done : FnScope ["_law_values", "_law_last", "_law_row_here", "_law_letter_here", "_law_answer"] ["_law_values", "_law_last", "_law_row_here"] (defScope s__law_one_done) := ⟨rfl, rfl, rfl, by decide +kernel, rfl, by decide +kernel, by decide +kernel⟩
abbrev s__law_told : Stmt := topS 30
theorem sc__law_told : FnScope ["_law_values", "_law_last", "_law_client"] ["_law_values", "_law_last"] (defScope s__law_told) := ⟨rfl, rfl, rfl, by decide +kernel, rfl, by decide +kernel, by decide +kernel⟩
abbrev s__law_parts : Stmt := topS 31
theorem sc__law_parts : FnScope ["_law_store", "_law_client", "_law_number", "_law_answer"] ["_law_store"] (defScope s__law_parts) := ⟨rfl, rfl, rfl, by decide +kernel, rfl, by decide +kernel, by decide +kernel⟩
abbrev s__law_behind : Stmt := topS 32
theorem sc__law_behind : FnScope ["_law_store", "_law_rows_here", "_law_row_here", "_law_values", "_law_last"] ["_law_store", "_law_rows_here"] (defScope s__law_behind) := ⟨rfl, rfl, rfl, by decide +kernel, rfl, by decide +kernel, by decide +kernel⟩
abbrev s__law_led : Stmt := topS 33
theorem sc__law_led : FnScope ["_law_group_here", "_law_rows_here", "_law_row_here"] ["_law_group_here", "_law_rows_here"] (defScope s__law_led) := ⟨rfl, rfl, rfl, by decide +kernel, rfl, by decide +kernel, by decide +kernel⟩
abbrev s__law_rows : Stmt := topS 34
theorem sc__law_rows : FnScope ["_law_group_here", "_law_cells", "_law_k", "_law_sets", "_law_rows_here", "_law_at", "_law_cell", "_law_row_here"] ["_law_group_here", "_law_cells", "_law_k"] (defScope s__law_rows) := ⟨rfl, rfl, rfl, by decide +kernel, rfl, by decide +kernel, by decide +kernel⟩
abbrev s__law_agrees : Stmt := topS 35
theorem sc__law_agrees : FnScope ["_law_log", "_law_group_here", "_law_rows_here", "_law_cut", "_law_store", "_law_behind_here", "_law_mine"] ["_law_log", "_law_group_here", "_law_rows_here"] (defScope s__law_agrees) := ⟨rfl, rfl, rfl, by decide +kernel, rfl, by decide +kernel, by decide +kernel⟩
abbrev s__law_other_row : Stmt := topS 36
theorem sc__law_other_row : FnScope ["_law_state_here", "_law_row_here", "_law_way"] ["_law_state_here", "_law_row_here"] (defScope s__law_other_row) := ⟨rfl, rfl, rfl, by decide +kernel, rfl, by decide +kernel, by decide +kernel⟩
abbrev s__law_with_other : Stmt := topS 37
theorem sc__law_with_other : FnScope ["_law_state_here", "_law_rows_here", "_law_at"] ["_law_state_here", "_law_rows_here"] (defScope s__law_with_other) := ⟨rfl, rfl, rfl, by decide +kernel, rfl, by decide +kernel, by decide +kernel⟩
abbrev s__law_other_store : Stmt := topS 38
theorem sc__law_other_store : FnScope ["_law_state_here", "_law_store", "_law_at", "_law_values", "_law_last", "_law_client", "_law_number", "_law_answer"] ["_law_state_here", "_law_store"] (defScope s__law_other_store) := ⟨rfl, rfl, rfl, by decide +kernel, rfl, by decide +kernel, by decide +kernel⟩
abbrev s__law_other_log : Stmt := topS 39
theorem sc__law_other_log : FnScope ["_law_state_here", "_law_log", "_law_way", "_law_cut", "_law_store", "_law_group_here", "_law_mine", "_law_one"] ["_law_state_here", "_law_log"] (defScope s__law_other_log) := ⟨rfl, rfl, rfl, by decide +kernel, rfl, by decide +kernel, by decide +kernel⟩
abbrev s_law : Stmt := topS 40
theorem sc_law : FnScope ["_law_script", "_law_state_here", "_law_group_here", "_law_rows_here", "_law_whole", "_law_row_here", "_law_k", "_law_cut", "_law_end", "_law_log", "_law_mine", "_law_first", "_law_pairs", "_law_other", "_law_those", "_law_found", "_law_one"] ["_law_script"] (defScope s_law) := ⟨rfl, rfl, rfl, by decide +kernel, rfl, by decide +kernel, by decide +kernel⟩
def b_group_after : En → Out := seqS (sIfS (sTest (sP2 pEq (sP2 pIx (sV 1) (sC (.int 0))) (sC (.str "deed")))) (sRet (sV 0)) (sNext))
  (seqS (sIfS (sAnd (sTest (sP2 pEq (sP2 pIx (sV 1) (sC (.int 0))) (sC (.str "change")))) (sTest (sP2 pEq (sPN pLen (sCons (sV 0) (sNil))) (sC (.int 1))))) (sRet (sTup (sCons (sP2 pIx (sV 0) (sC (.int 0))) (sCons (sP2 pIx (sV 1) (sC (.int 1))) (sNil))))) (sNext))
  (seqS (sIfS (sAnd (sTest (sP2 pEq (sP2 pIx (sV 1) (sC (.int 0))) (sC (.str "close")))) (sTest (sP2 pEq (sPN pLen (sCons (sV 0) (sNil))) (sC (.int 2))))) (sRet (sTup (sCons (sP2 pIx (sV 0) (sC (.int 1))) (sNil)))) (sNext))
  (sRet (sC .none))))
def f_group_after : En → Res Op := runF 2 b_group_after
theorem fe_group_after {a0 a1 : Sl} {Q : Op → En → Prop} : FE f_group_after [a0, a1] nX Q = WS b_group_after [a0, a1] (FIN [a0, a1] nX Q) := fe_runF
def g_group_behind_1 : PyData → En → Res Unit := gN 2
def l_group_behind_1 : En → Out := kill [2] (seqS (kill [2] (sAsg 0 (sCall f_group_after (sCons (sV 0) (sCons (sV 2) (sNil))))))
  (sIfS (sTest (sP2 (pIs id) (sV 0) (sC .none))) (sRet (sC .none)) (sNext)))
def b_group_behind : En → Out := seqS (kill [2] (sFor (sItr (sV 1)) g_group_behind_1 l_group_behind_1))
  (sRet (sV 0))
def f_group_behind : En → Res Op := runF 3 b_group_behind
theorem fe_group_behind {a0 a1 : Sl} {Q : Op → En → Prop} : FE f_group_behind [a0, a1] nX Q = WS b_group_behind [a0, a1, .no] (FIN [a0, a1] nX Q) := fe_runF
def b_first_store : En → Out := sRet (sTup (sCons (sTup (sNil)) (sCons (sTup (sNil)) (sNil))))
def f_first_store : En → Res Op := runF 0 b_first_store
theorem fe_first_store {Q : Op → En → Prop} : FE f_first_store [] nX Q = WS b_first_store [] (FIN [] nX Q) := fe_runF
def g_worth_1 : PyData → En → Res Unit := gT 2 (gCn (gN 2) (gCn (gN 3) (gNl)))
def l_worth_1 : En → Out := kill [2, 3] (kill [2, 3] (sIfS (sTest (sP2 pEq (sV 2) (sV 1))) (sRet (sV 3)) (sNext)))
def b_worth : En → Out := seqS (kill [2, 3] (sFor (sItr (sP2 pIx (sV 0) (sC (.int 0)))) g_worth_1 l_worth_1))
  (sRet (sC (.int 0)))
def f_worth : En → Res Op := runF 4 b_worth
theorem fe_worth {a0 a1 : Sl} {Q : Op → En → Prop} : FE f_worth [a0, a1] nX Q = WS b_worth [a0, a1, .no, .no] (FIN [a0, a1] nX Q) := fe_runF
def g_last_of_1 : PyData → En → Res Unit := gT 3 (gCn (gN 2) (gCn (gN 3) (gCn (gN 4) (gNl))))
def l_last_of_1 : En → Out := kill [2, 3, 4] (kill [2, 3, 4] (sIfS (sTest (sP2 pEq (sV 2) (sV 1))) (sRet (sTup (sCons (sV 3) (sCons (sV 4) (sNil))))) (sNext)))
def b_last_of : En → Out := seqS (kill [2, 3, 4] (sFor (sItr (sP2 pIx (sV 0) (sC (.int 1)))) g_last_of_1 l_last_of_1))
  (sRet (sC .none))
def f_last_of : En → Res Op := runF 5 b_last_of
theorem fe_last_of {a0 a1 : Sl} {Q : Op → En → Prop} : FE f_last_of [a0, a1] nX Q = WS b_last_of [a0, a1, .no, .no, .no] (FIN [a0, a1] nX Q) := fe_runF
def cg_with_one_1 : PyData → En → Res Unit := gN 2
def ct_with_one_1 : En → Res Bool := sTest (sP2 pNe (sP2 pIx (sV 2) (sC (.int 0))) (sP2 pIx (sV 1) (sC (.int 0))))
def ce_with_one_1 : En → Res Op := sV 2
def b_with_one : En → Out := sRet (sPN pTupOf (sCons (sPN pSorted (sCons (sP2 pAdd (sLc (sItr (sV 0)) cg_with_one_1 ct_with_one_1 ce_with_one_1 [2]) (sLst (sCons (sV 1) (sNil)))) (sNil))) (sNil)))
def f_with_one : En → Res Op := runF 3 b_with_one
theorem fe_with_one {a0 a1 : Sl} {Q : Op → En → Prop} : FE f_with_one [a0, a1] nX Q = WS b_with_one [a0, a1, .no] (FIN [a0, a1] nX Q) := fe_runF
def b_done : En → Out := seqS (sIfS (sTest (sP2 pNe (sP2 pIx (sV 1) (sC (.int 0))) (sC (.str "deed")))) (sRet (sV 0)) (sNext))
  (seqS (kill [5] (sAsgT (gT 4 (gCn (gN 5) (gCn (gN 6) (gCn (gN 7) (gCn (gN 8) (gNl)))))) (sV 1)))
  (seqS (sAsg 2 (sCall f_last_of (sCons (sV 0) (sCons (sV 6) (sNil)))))
  (seqS (kill [2] (sIfS (sAnd (sTest (sP2 (pIs not) (sV 2) (sC .none))) (sTest (sP2 pGe (sP2 pIx (sV 2) (sC (.int 0))) (sV 7)))) (sRet (sV 0)) (sNext)))
  (seqS (sAsg 3 (sP2 pIx (sV 0) (sC (.int 0))))
  (seqS (sAsg 4 (sCall f_worth (sCons (sV 0) (sCons (sP2 pIx (sV 8) (sC (.int 1))) (sNil)))))
  (seqS (sIfS (sTest (sP2 pEq (sP2 pIx (sV 8) (sC (.int 0))) (sC (.str "put")))) (sAsg 3 (sCall f_with_one (sCons (sV 3) (sCons (sTup (sCons (sP2 pIx (sV 8) (sC (.int 1))) (sCons (sP2 pIx (sV 8) (sC (.int 2))) (sNil)))) (sNil))))) (sNext))
  (seqS (kill [8] (sIfS (sTest (sP2 pEq (sP2 pIx (sV 8) (sC (.int 0))) (sC (.str "add")))) (seqS (sAsg 4 (sP2 pAdd (sV 4) (sP2 pIx (sV 8) (sC (.int 2)))))
  (kill [8] (sAsg 3 (sCall f_with_one (sCons (sV 3) (sCons (sTup (sCons (sP2 pIx (sV 8) (sC (.int 1))) (sCons (sV 4) (sNil)))) (sNil))))))) (sNext)))
  (sRet (sTup (sCons (sV 3) (sCons (sCall f_with_one (sCons (sP2 pIx (sV 0) (sC (.int 1))) (sCons (sTup (sCons (sV 6) (sCons (sV 7) (sCons (sV 4) (sNil))))) (sNil)))) (sNil))))))))))))
def f_done : En → Res Op := runF 9 b_done
theorem fe_done {a0 a1 : Sl} {Q : Op → En → Prop} : FE f_done [a0, a1] nX Q = WS b_done [a0, a1, .no, .no, .no, .no, .no, .no, .no] (FIN [a0, a1] nX Q) := fe_runF
def g_all_done_1 : PyData → En → Res Unit := gN 2
def l_all_done_1 : En → Out := kill [2] (kill [2] (sAsg 0 (sCall f_done (sCons (sV 0) (sCons (sV 2) (sNil))))))
def b_all_done : En → Out := seqS (kill [2] (sFor (sItr (sV 1)) g_all_done_1 l_all_done_1))
  (sRet (sV 0))
def f_all_done : En → Res Op := runF 3 b_all_done
theorem fe_all_done {a0 a1 : Sl} {Q : Op → En → Prop} : FE f_all_done [a0, a1] nX Q = WS b_all_done [a0, a1, .no] (FIN [a0, a1] nX Q) := fe_runF
def b_first_log : En → Out := sRet (sTup (sCons (sC (.int 0)) (sCons (sCall0 f_first_store) (sCons (sV 0) (sCons (sTup (sNil)) (sNil))))))
def f_first_log : En → Res Op := runF 1 b_first_log
theorem fe_first_log {a0 : Sl} {Q : Op → En → Prop} : FE f_first_log [a0] nX Q = WS b_first_log [a0] (FIN [a0] nX Q) := fe_runF
def b_length : En → Out := sRet (sP2 pAdd (sP2 pIx (sV 0) (sC (.int 0))) (sPN pLen (sCons (sP2 pIx (sV 0) (sC (.int 3))) (sNil))))
def f_length : En → Res Op := runF 1 b_length
theorem fe_length {a0 : Sl} {Q : Op → En → Prop} : FE f_length [a0] nX Q = WS b_length [a0] (FIN [a0] nX Q) := fe_runF
def b_store_at : En → Out := sRet (sCall f_all_done (sCons (sP2 pIx (sV 0) (sC (.int 1))) (sCons (sSl (sP2 pIx (sV 0) (sC (.int 3))) (sNo) (sSome (sP2 pSub (sV 1) (sP2 pIx (sV 0) (sC (.int 0)))))) (sNil))))
def f_store_at : En → Res Op := runF 2 b_store_at
theorem fe_store_at {a0 a1 : Sl} {Q : Op → En → Prop} : FE f_store_at [a0, a1] nX Q = WS b_store_at [a0, a1] (FIN [a0, a1] nX Q) := fe_runF
def b_put : En → Out := seqS (sAsgT (gT 4 (gCn (gN 2) (gCn (gN 3) (gCn (gN 4) (gCn (gN 5) (gNl)))))) (sV 0))
  (sRet (sTup (sCons (sV 2) (sCons (sV 3) (sCons (sV 4) (sCons (sP2 pAdd (sV 5) (sTup (sCons (sV 1) (sNil)))) (sNil)))))))
def f_put : En → Res Op := runF 6 b_put
theorem fe_put {a0 a1 : Sl} {Q : Op → En → Prop} : FE f_put [a0, a1] nX Q = WS b_put [a0, a1, .no, .no, .no, .no] (FIN [a0, a1] nX Q) := fe_runF
def b_cut_at : En → Out := seqS (kill [4] (sAsgT (gT 4 (gCn (gN 3) (gCn (gN 4) (gCn (gN 5) (gCn (gN 6) (gNl)))))) (sV 0)))
  (seqS (kill [3] (sAsg 2 (sP2 pSub (sV 1) (sV 3))))
  (sRet (sTup (sCons (sV 1) (sCons (sCall f_store_at (sCons (sV 0) (sCons (sV 1) (sNil)))) (sCons (sCall f_group_behind (sCons (sV 5) (sCons (sSl (sV 6) (sNo) (sSome (sV 2))) (sNil)))) (sCons (sSl (sV 6) (sSome (sV 2)) (sNo)) (sNil))))))))
def f_cut_at : En → Res Op := runF 7 b_cut_at
theorem fe_cut_at {a0 a1 : Sl} {Q : Op → En → Prop} : FE f_cut_at [a0, a1] nX Q = WS b_cut_at [a0, a1, .no, .no, .no, .no, .no] (FIN [a0, a1] nX Q) := fe_runF
def b_does_agree : En → Out := seqS (sAsgT (gT 4 (gCn (gN 3) (gCn (gN 4) (gCn (gN 5) (gCn (gN 6) (gNl)))))) (sV 0))
  (seqS (sIfS (sTest (sP2 pLt (sPN pLen (sCons (sV 2) (sNil))) (sCall f_length (sCons (sV 0) (sNil))))) (sRet (sC (.bool false))) (sNext))
  (seqS (kill [4, 5] (sIfS (sOr (sTest (sP2 pNe (sV 4) (sCall f_all_done (sCons (sCall0 f_first_store) (sCons (sSl (sV 2) (sNo) (sSome (sV 3))) (sNil)))))) (sTest (sP2 pNe (sV 5) (sCall f_group_behind (sCons (sV 1) (sCons (sSl (sV 2) (sNo) (sSome (sV 3))) (sNil))))))) (sRet (sC (.bool false))) (sNext)))
  (sRet (sP2 pEq (sV 6) (sPN pTupOf (sCons (sSl (sV 2) (sSome (sV 3)) (sSome (sCall f_length (sCons (sV 0) (sNil))))) (sNil)))))))
def f_does_agree : En → Res Op := runF 7 b_does_agree
theorem fe_does_agree {a0 a1 a2 : Sl} {Q : Op → En → Prop} : FE f_does_agree [a0, a1, a2] nX Q = WS b_does_agree [a0, a1, a2, .no, .no, .no, .no] (FIN [a0, a1, a2] nX Q) := fe_runF
def b__law_cell_at : En → Out := seqS (sIfS (sTest (sP2 pLt (sV 1) (sPN pLen (sCons (sV 0) (sNil))))) (sRet (sP2 pIx (sV 0) (sV 1))) (sNext))
  (sRet (sC (.int 0)))
def f__law_cell_at : En → Res Op := runF 2 b__law_cell_at
theorem fe__law_cell_at {a0 a1 : Sl} {Q : Op → En → Prop} : FE f__law_cell_at [a0, a1] nX Q = WS b__law_cell_at [a0, a1] (FIN [a0, a1] nX Q) := fe_runF
def b__law_state : En → Out := seqS (sIfS (sTest (sP2 pGe (sV 0) (sP2 pPow (sC (.int 10)) (sC (.int 18))))) (sRet (sLst (sCons (sV 0) (sCons (sP2 pAdd (sP2 pMod (sV 0) (sC (.int 2147483647))) (sV 1)) (sNil))))) (sNext))
  (sRet (sLst (sCons (sC (.int 0)) (sCons (sP2 pAdd (sP2 pMod (sP2 pMul (sP2 pAdd (sP2 pAdd (sP2 pMod (sV 0) (sC (.int 1000000007))) (sP2 pMul (sC (.int 7919)) (sV 1))) (sC (.int 1))) (sC (.int 48271))) (sC (.int 2147483647))) (sV 1)) (sNil)))))
def f__law_state : En → Res Op := runF 2 b__law_state
theorem fe__law_state {a0 a1 : Sl} {Q : Op → En → Prop} : FE f__law_state [a0, a1] nX Q = WS b__law_state [a0, a1] (FIN [a0, a1] nX Q) := fe_runF
def b__law_next : En → Out := seqS (kill [3] (sIfS (sTest (sP2 pGt (sP2 pIx (sV 0) (sC (.int 0))) (sC (.int 0)))) (seqS (sAsg 3 (sP2 pMod (sP2 pIx (sV 0) (sC (.int 0))) (sV 1)))
  (seqS (sSet 0 (sC (.int 0)) (sP2 pDivW (sP2 pIx (sV 0) (sC (.int 0))) (sV 1)))
  (sRet (sV 3)))) (sNext)))
  (seqS (sAsg 2 (sP2 pAdd (sP2 pMul (sP2 pIx (sV 0) (sC (.int 1))) (sP2 pAdd (sP2 pMod (sP2 pIx (sV 0) (sC (.int 1))) (sC (.int 1009))) (sC (.int 48271)))) (sC (.int 12345678910987))))
  (seqS (kill [2] (sSet 0 (sC (.int 1)) (sP2 pMod (sV 2) (sC (.int 2305843009213693951)))))
  (sRet (sP2 pMod (sP2 pDivW (sP2 pIx (sV 0) (sC (.int 1))) (sC (.int 65537))) (sV 1)))))
def f__law_next : En → Res Op := runF 4 b__law_next
theorem fe__law_next {a0 a1 : Sl} {Q : Op → En → Prop} : FE f__law_next [a0, a1] nX Q = WS b__law_next [a0, a1, .no, .no] (FIN [a0, a1] nX Q) := fe_runF
def g__law_wide_1 : PyData → En → Res Unit := gN 2
def l__law_wide_1 : En → Out := kill [2] (sAsg 1 (sP2 pAdd (sP2 pMul (sV 1) (sP2 pPow (sC (.int 10)) (sC (.int 12)))) (sCall f__law_next (sCons (sV 0) (sCons (sP2 pPow (sC (.int 10)) (sC (.int 12))) (sNil))))))
def b__law_wide : En → Out := seqS (sAsg 1 (sC (.int 0)))
  (seqS (kill [2] (sFor (sRng1 (sCons (sC (.int 5)) (sNil))) g__law_wide_1 l__law_wide_1))
  (sRet (sV 1)))
def f__law_wide : En → Res Op := runF 3 b__law_wide
theorem fe__law_wide {a0 : Sl} {Q : Op → En → Prop} : FE f__law_wide [a0] nX Q = WS b__law_wide [a0, .no, .no] (FIN [a0] nX Q) := fe_runF
def b__law_value : En → Out := seqS (sAsg 1 (sCall f__law_next (sCons (sV 0) (sCons (sC (.int 4)) (sNil)))))
  (seqS (sIfS (sTest (sP2 pEq (sV 1) (sC (.int 0)))) (sRet (sP2 pSub (sCall f__law_next (sCons (sV 0) (sCons (sC (.int 7)) (sNil)))) (sC (.int 3)))) (sNext))
  (seqS (sIfS (sTest (sP2 pEq (sV 1) (sC (.int 1)))) (sRet (sCall f__law_wide (sCons (sV 0) (sNil)))) (sNext))
  (seqS (kill [1] (sIfS (sTest (sP2 pEq (sV 1) (sC (.int 2)))) (sRet (sP2 pSub (sC (.int 0)) (sCall f__law_wide (sCons (sV 0) (sNil))))) (sNext)))
  (sRet (sP2 pSub (sCall f__law_next (sCons (sV 0) (sCons (sC (.int 2001)) (sNil)))) (sC (.int 1000)))))))
def f__law_value : En → Res Op := runF 2 b__law_value
theorem fe__law_value {a0 : Sl} {Q : Op → En → Prop} : FE f__law_value [a0] nX Q = WS b__law_value [a0, .no] (FIN [a0] nX Q) := fe_runF
def b__law_letter : En → Out := seqS (sIfS (sTest (sP2 pEq (sCall f__law_next (sCons (sV 0) (sCons (sC (.int 3)) (sNil)))) (sC (.int 0)))) (sRet (sP2 pIx (sC (.str "abcdefghijklmnopqrstuvwxyz")) (sCall f__law_next (sCons (sV 0) (sCons (sC (.int 26)) (sNil)))))) (sNext))
  (sRet (sP2 pIx (sC (.str "kaz")) (sCall f__law_next (sCons (sV 0) (sCons (sC (.int 3)) (sNil))))))
def f__law_letter : En → Res Op := runF 1 b__law_letter
theorem fe__law_letter {a0 : Sl} {Q : Op → En → Prop} : FE f__law_letter [a0] nX Q = WS b__law_letter [a0] (FIN [a0] nX Q) := fe_runF
def b__law_deed : En → Out := seqS (sAsg 1 (sCall f__law_next (sCons (sV 0) (sCons (sC (.int 3)) (sNil)))))
  (seqS (sAsg 2 (sCall f__law_letter (sCons (sV 0) (sNil))))
  (seqS (sIfS (sTest (sP2 pEq (sV 1) (sC (.int 0)))) (sRet (sTup (sCons (sC (.str "get")) (sCons (sV 2) (sNil))))) (sNext))
  (sRet (sTup (sCons (sP2 pIx (sLst (sCons (sC (.str "put")) (sCons (sC (.str "add")) (sNil)))) (sP2 pSub (sV 1) (sC (.int 1)))) (sCons (sV 2) (sCons (sCall f__law_value (sCons (sV 0) (sNil))) (sNil))))))))
def f__law_deed : En → Res Op := runF 3 b__law_deed
theorem fe__law_deed {a0 : Sl} {Q : Op → En → Prop} : FE f__law_deed [a0] nX Q = WS b__law_deed [a0, .no, .no] (FIN [a0] nX Q) := fe_runF
def b__law_small : En → Out := seqS (sIfS (sTest (sP2 pEq (sCall f__law_next (sCons (sV 0) (sCons (sC (.int 5)) (sNil)))) (sC (.int 0)))) (sRet (sCall f__law_wide (sCons (sV 0) (sNil)))) (sNext))
  (sRet (sCall f__law_next (sCons (sV 0) (sCons (sV 1) (sNil)))))
def f__law_small : En → Res Op := runF 2 b__law_small
theorem fe__law_small {a0 a1 : Sl} {Q : Op → En → Prop} : FE f__law_small [a0, a1] nX Q = WS b__law_small [a0, a1] (FIN [a0, a1] nX Q) := fe_runF
def cg__law_set_1 : PyData → En → Res Unit := gN 2
def ct__law_set_1 : En → Res Bool := sTest (sP2 pEq (sP2 pBand (sP2 pShr (sV 1) (sV 2)) (sC (.int 1))) (sC (.int 1)))
def ce__law_set_1 : En → Res Op := sV 2
def b__law_set : En → Out := seqS (sAsg 1 (sP2 pAdd (sC (.int 1)) (sCall f__law_next (sCons (sV 0) (sCons (sC (.int 63)) (sNil))))))
  (sRet (sPN pTupOf (sCons (sLc (sRng1 (sCons (sC (.int 6)) (sNil))) cg__law_set_1 ct__law_set_1 ce__law_set_1 [2]) (sNil))))
def f__law_set : En → Res Op := runF 3 b__law_set
theorem fe__law_set {a0 : Sl} {Q : Op → En → Prop} : FE f__law_set [a0] nX Q = WS b__law_set [a0, .no, .no] (FIN [a0] nX Q) := fe_runF
def b__law_group : En → Out := seqS (sIfS (sTest (sP2 pEq (sCall f__law_next (sCons (sV 0) (sCons (sC (.int 3)) (sNil)))) (sC (.int 0)))) (sRet (sTup (sCons (sCall f__law_set (sCons (sV 0) (sNil))) (sCons (sCall f__law_set (sCons (sV 0) (sNil))) (sNil))))) (sNext))
  (sRet (sTup (sCons (sCall f__law_set (sCons (sV 0) (sNil))) (sNil))))
def f__law_group : En → Res Op := runF 1 b__law_group
theorem fe__law_group {a0 : Sl} {Q : Op → En → Prop} : FE f__law_group [a0] nX Q = WS b__law_group [a0] (FIN [a0] nX Q) := fe_runF
def b__law_row : En → Out := seqS (sIfS (sTest (sP2 pEq (sCall f__law_next (sCons (sV 0) (sCons (sC (.int 5)) (sNil)))) (sC (.int 0)))) (seqS (sIfS (sTest (sP2 pEq (sV 1) (sC (.int 2)))) (sRet (sTup (sCons (sC (.str "close")) (sNil)))) (sNext))
  (sRet (sTup (sCons (sC (.str "change")) (sCons (sCall f__law_set (sCons (sV 0) (sNil))) (sNil)))))) (sNext))
  (sRet (sTup (sCons (sC (.str "deed")) (sCons (sCall f__law_small (sCons (sV 0) (sCons (sC (.int 4)) (sNil)))) (sCons (sP2 pAdd (sC (.int 1)) (sCall f__law_small (sCons (sV 0) (sCons (sC (.int 5)) (sNil))))) (sCons (sCall f__law_deed (sCons (sV 0) (sNil))) (sNil)))))))
def f__law_row : En → Res Op := runF 2 b__law_row
theorem fe__law_row {a0 a1 : Sl} {Q : Op → En → Prop} : FE f__law_row [a0, a1] nX Q = WS b__law_row [a0, a1] (FIN [a0, a1] nX Q) := fe_runF
def b__law_one_done : En → Out := seqS (sIfS (sOr (sTest (sP2 pNe (sP2 pIx2 (sV 2) (sC (.int 0))) (sC (.str "deed")))) (sAnd (sTest (sP2 (pIn2 id) (sP2 pIx2 (sV 2) (sC (.int 1))) (sV 1))) (sTest (sP2 pGe (sP2 pIx2 (sP2 pIx2 (sV 1) (sP2 pIx2 (sV 2) (sC (.int 1)))) (sC (.int 0))) (sP2 pIx2 (sV 2) (sC (.int 2))))))) (sRetN) (sNext))
  (seqS (sAsg 3 (sP2 pIx2 (sP2 pIx2 (sV 2) (sC (.int 3))) (sC (.int 1))))
  (seqS (sAsg 4 (sGet2 (sV 0) (sV 3) (sC (.int 0))))
  (seqS (sIfS (sTest (sP2 pEq (sP2 pIx2 (sP2 pIx2 (sV 2) (sC (.int 3))) (sC (.int 0))) (sC (.str "put")))) (sSetD 0 (sV 3) (sP2 pIx2 (sP2 pIx2 (sV 2) (sC (.int 3))) (sC (.int 2)))) (sNext))
  (seqS (kill [3] (sIfS (sTest (sP2 pEq (sP2 pIx2 (sP2 pIx2 (sV 2) (sC (.int 3))) (sC (.int 0))) (sC (.str "add")))) (seqS (sAsg 4 (sP2 pAdd (sV 4) (sP2 pIx2 (sP2 pIx2 (sV 2) (sC (.int 3))) (sC (.int 2)))))
  (kill [3] (sSetD 0 (sV 3) (sV 4)))) (sNext)))
  (kill [4] (sSetD 1 (sP2 pIx2 (sV 2) (sC (.int 1))) (sTup (sCons (sP2 pIx2 (sV 2) (sC (.int 2))) (sCons (sV 4) (sNil))))))))))
def f__law_one_done : En → Res Op := runF 5 b__law_one_done
theorem fe__law_one_done {a0 a1 a2 : Sl} {Q : Op → En → Prop} : FE f__law_one_done [a0, a1, a2] nX Q = WS b__law_one_done [a0, a1, a2, .no, .no] (FIN [a0, a1, a2] nX Q) := fe_runF
def cg__law_told_1 : PyData → En → Res Unit := gN 2
def ce__law_told_1 : En → Res Op := sTup (sCons (sV 2) (sCons (sP2 pIx2 (sP2 pIx2 (sV 1) (sV 2)) (sC (.int 0))) (sCons (sP2 pIx2 (sP2 pIx2 (sV 1) (sV 2)) (sC (.int 1))) (sNil))))
def b__law_told : En → Out := sRet (sTup (sCons (sPN pTupOf (sCons (sP1 pItemsK (sV 0)) (sNil))) (sCons (sPN pTupOf (sCons (sPN pSorted (sCons (sLc (sItr (sPN pLstOf2 (sCons (sV 1) (sNil)))) cg__law_told_1 sYes ce__law_told_1 [2]) (sNil))) (sNil))) (sNil))))
def f__law_told : En → Res Op := runF 3 b__law_told
theorem fe__law_told {a0 a1 : Sl} {Q : Op → En → Prop} : FE f__law_told [a0, a1] nX Q = WS b__law_told [a0, a1, .no] (FIN [a0, a1] nX Q) := fe_runF
def cg__law_parts_1 : PyData → En → Res Unit := gT 3 (gCn (gN 1) (gCn (gN 2) (gCn (gN 3) (gNl))))
def ce__law_parts_1 : En → Res Op := sTup (sCons (sV 1) (sCons (sTup (sCons (sV 2) (sCons (sV 3) (sNil)))) (sNil)))
def b__law_parts : En → Out := sRetT (sCons (sPN pDicT (sCons (sP2 pIx (sV 0) (sC (.int 0))) (sNil))) (sCons (sPN pDicOf (sCons (sLc (sItr (sP2 pIx (sV 0) (sC (.int 1)))) cg__law_parts_1 sYes ce__law_parts_1 [1, 2, 3]) (sNil))) (sNil)))
def f__law_parts : En → Res Cs := runFD 4 b__law_parts
theorem fe__law_parts {a0 : Sl} {Q : Cs → En → Prop} : FC f__law_parts [a0] nX Q = WS b__law_parts [a0, .no, .no, .no] (FIND [a0] nX Q) := fc_runFD
def g__law_behind_1 : PyData → En → Res Unit := gN 2
def l__law_behind_1 : En → Out := kill [2] (kill [2] (sDrop (sCall f__law_one_done (sCons (sV 3) (sCons (sV 4) (sCons (sV 2) (sNil)))))))
def b__law_behind : En → Out := seqS (sUnpC [3, 4] (sCallD f__law_parts (sCons (sV 0) (sNil))))
  (seqS (kill [2] (sFor (sItr (sV 1)) g__law_behind_1 l__law_behind_1))
  (sRet (sCall f__law_told (sCons (sV 3) (sCons (sV 4) (sNil))))))
def f__law_behind : En → Res Op := runF 5 b__law_behind
theorem fe__law_behind {a0 a1 : Sl} {Q : Op → En → Prop} : FE f__law_behind [a0, a1] nX Q = WS b__law_behind [a0, a1, .no, .no, .no] (FIN [a0, a1] nX Q) := fe_runF
def g__law_led_1 : PyData → En → Res Unit := gN 2
def l__law_led_1 : En → Out := kill [2] (seqS (sIfS (sTest (sP2 pEq (sP2 pIx (sV 2) (sC (.int 0))) (sC (.str "change")))) (sAsg 0 (sTup (sCons (sP2 pIx (sV 0) (sC (.int 0))) (sCons (sP2 pIx (sV 2) (sC (.int 1))) (sNil))))) (sNext))
  (kill [2] (sIfS (sTest (sP2 pEq (sP2 pIx (sV 2) (sC (.int 0))) (sC (.str "close")))) (sAsg 0 (sSl (sV 0) (sSome (sC (.int 1))) (sNo))) (sNext))))
def b__law_led : En → Out := seqS (kill [2] (sFor (sItr (sV 1)) g__law_led_1 l__law_led_1))
  (sRet (sV 0))
def f__law_led : En → Res Op := runF 3 b__law_led
theorem fe__law_led {a0 a1 : Sl} {Q : Op → En → Prop} : FE f__law_led [a0, a1] nX Q = WS b__law_led [a0, a1, .no] (FIN [a0, a1] nX Q) := fe_runF
def g__law_rows_1 : PyData → En → Res Unit := gT 2 (gCn (gN 5) (gCn (gN 6) (gNl)))
def l__law_rows_1 : En → Out := kill [5, 6, 7] (seqS (kill [5, 6] (sAsg 7 (sCall f__law_row (sCons (sCall f__law_state (sCons (sV 6) (sCons (sP2 pAdd (sV 2) (sV 5)) (sNil)))) (sCons (sV 3) (sNil))))))
  (seqS (sIfS (sTest (sP2 pNe (sP2 pIx (sV 7) (sC (.int 0))) (sC (.str "deed")))) (sAsg 3 (sP2 pSub (sC (.int 3)) (sV 3))) (sNext))
  (kill [7] (sDrop (sMt 4 pApp (sCons (sV 7) (sNil)))))))
def b__law_rows : En → Out := seqS (sAsg 3 (sPN pLen (sCons (sV 0) (sNil))))
  (seqS (sAsg 4 (sLst (sNil)))
  (seqS (kill [3, 5, 6, 7] (sFor (sEnum (sV 1)) g__law_rows_1 l__law_rows_1))
  (sRet (sPN pTupOf (sCons (sV 4) (sNil))))))
def f__law_rows : En → Res Op := runF 8 b__law_rows
theorem fe__law_rows {a0 a1 a2 : Sl} {Q : Op → En → Prop} : FE f__law_rows [a0, a1, a2] nX Q = WS b__law_rows [a0, a1, a2, .no, .no, .no, .no, .no] (FIN [a0, a1, a2] nX Q) := fe_runF
def b__law_agrees : En → Out := seqS (sAsgT (gT 4 (gCn (gN 3) (gCn (gN 4) (gCn (gN 5) (gCn (gN 6) (gNl)))))) (sV 0))
  (seqS (kill [6] (sIfS (sOr (sTest (sP2 pLt (sPN pLen (sCons (sV 2) (sNil))) (sP2 pAdd (sV 3) (sPN pLen (sCons (sV 6) (sNil)))))) (sTest (sP2 pNe (sSl (sV 2) (sSome (sV 3)) (sSome (sP2 pAdd (sV 3) (sPN pLen (sCons (sV 6) (sNil)))))) (sV 6)))) (sRet (sC (.bool false))) (sNext)))
  (sRet (sAndV (sP2 pEq (sV 4) (sCall f__law_behind (sCons (sTup (sCons (sTup (sNil)) (sCons (sTup (sNil)) (sNil)))) (sCons (sSl (sV 2) (sNo) (sSome (sV 3))) (sNil))))) (sP2 pEq (sV 5) (sCall f__law_led (sCons (sV 1) (sCons (sSl (sV 2) (sNo) (sSome (sV 3))) (sNil))))))))
def f__law_agrees : En → Res Op := runF 7 b__law_agrees
theorem fe__law_agrees {a0 a1 a2 : Sl} {Q : Op → En → Prop} : FE f__law_agrees [a0, a1, a2] nX Q = WS b__law_agrees [a0, a1, a2, .no, .no, .no, .no] (FIN [a0, a1, a2] nX Q) := fe_runF
def b__law_other_row : En → Out := seqS (sIfS (sTest (sP2 pEq (sV 1) (sTup (sCons (sC (.str "close")) (sNil))))) (sRet (sV 1)) (sNext))
  (seqS (sIfS (sTest (sP2 pEq (sP2 pIx (sV 1) (sC (.int 0))) (sC (.str "change")))) (sRet (sTup (sCons (sC (.str "change")) (sCons (sCall f__law_set (sCons (sV 0) (sNil))) (sNil))))) (sNext))
  (seqS (sAsg 2 (sCall f__law_next (sCons (sV 0) (sCons (sC (.int 3)) (sNil)))))
  (seqS (sIfS (sTest (sP2 pEq (sV 2) (sC (.int 0)))) (sRet (sTup (sCons (sC (.str "deed")) (sCons (sP2 pAdd (sP2 pIx (sV 1) (sC (.int 1))) (sC (.int 1))) (sCons (sP2 pIx (sV 1) (sC (.int 2))) (sCons (sP2 pIx (sV 1) (sC (.int 3))) (sNil))))))) (sNext))
  (sRet (sTup (sCons (sC (.str "deed")) (sCons (sP2 pIx (sV 1) (sC (.int 1))) (sCons (sP2 pSub (sP2 pAdd (sP2 pIx (sV 1) (sC (.int 2))) (sV 2)) (sC (.int 1))) (sCons (sCall f__law_deed (sCons (sV 0) (sNil))) (sNil))))))))))
def f__law_other_row : En → Res Op := runF 3 b__law_other_row
theorem fe__law_other_row {a0 a1 : Sl} {Q : Op → En → Prop} : FE f__law_other_row [a0, a1] nX Q = WS b__law_other_row [a0, a1, .no] (FIN [a0, a1] nX Q) := fe_runF
def b__law_with_other : En → Out := seqS (sIfS (sTest (sP2 pEq (sV 1) (sTup (sNil)))) (sRet (sV 1)) (sNext))
  (seqS (sAsg 2 (sCall f__law_next (sCons (sV 0) (sCons (sPN pLen (sCons (sV 1) (sNil))) (sNil)))))
  (sRet (sP2 pAdd (sP2 pAdd (sSl (sV 1) (sNo) (sSome (sV 2))) (sTup (sCons (sCall f__law_other_row (sCons (sV 0) (sCons (sP2 pIx (sV 1) (sV 2)) (sNil)))) (sNil)))) (sSl (sV 1) (sSome (sP2 pAdd (sV 2) (sC (.int 1)))) (sNo)))))
def f__law_with_other : En → Res Op := runF 3 b__law_with_other
theorem fe__law_with_other {a0 a1 : Sl} {Q : Op → En → Prop} : FE f__law_with_other [a0, a1] nX Q = WS b__law_with_other [a0, a1, .no] (FIN [a0, a1] nX Q) := fe_runF
def b__law_other_store : En → Out := seqS (sAsgT (gT 2 (gCn (gN 3) (gCn (gN 4) (gNl)))) (sV 1))
  (seqS (kill [2] (sIfS (sAnd (sTest (sP2 pNe (sV 3) (sTup (sNil)))) (sTest (sP2 pEq (sCall f__law_next (sCons (sV 0) (sCons (sC (.int 2)) (sNil)))) (sC (.int 0))))) (seqS (sAsg 2 (sCall f__law_next (sCons (sV 0) (sCons (sPN pLen (sCons (sV 3) (sNil))) (sNil)))))
  (sRet (sTup (sCons (sP2 pAdd (sP2 pAdd (sSl (sV 3) (sNo) (sSome (sV 2))) (sTup (sCons (sTup (sCons (sP2 pIx (sP2 pIx (sV 3) (sV 2)) (sC (.int 0))) (sCons (sP2 pAdd (sP2 pIx (sP2 pIx (sV 3) (sV 2)) (sC (.int 1))) (sC (.int 1))) (sNil)))) (sNil)))) (sSl (sV 3) (sSome (sP2 pAdd (sV 2) (sC (.int 1)))) (sNo))) (sCons (sV 4) (sNil)))))) (sNext)))
  (seqS (sIfS (sTest (sP2 pEq (sV 4) (sTup (sNil)))) (sRet (sTup (sCons (sV 3) (sCons (sTup (sCons (sTup (sCons (sC (.int 0)) (sCons (sC (.int 1)) (sCons (sC (.int 0)) (sNil))))) (sNil))) (sNil))))) (sNext))
  (seqS (sAsg 2 (sCall f__law_next (sCons (sV 0) (sCons (sPN pLen (sCons (sV 4) (sNil))) (sNil)))))
  (seqS (sAsgT (gT 3 (gCn (gN 5) (gCn (gN 6) (gCn (gN 7) (gNl))))) (sP2 pIx (sV 4) (sV 2)))
  (sRet (sTup (sCons (sV 3) (sCons (sP2 pAdd (sP2 pAdd (sSl (sV 4) (sNo) (sSome (sV 2))) (sTup (sCons (sTup (sCons (sV 5) (sCons (sP2 pAdd (sV 6) (sCall f__law_next (sCons (sV 0) (sCons (sC (.int 2)) (sNil))))) (sCons (sP2 pSub (sV 7) (sCall f__law_next (sCons (sV 0) (sCons (sC (.int 2)) (sNil))))) (sNil))))) (sNil)))) (sSl (sV 4) (sSome (sP2 pAdd (sV 2) (sC (.int 1)))) (sNo))) (sNil)))))))))
def f__law_other_store : En → Res Op := runF 8 b__law_other_store
theorem fe__law_other_store {a0 a1 : Sl} {Q : Op → En → Prop} : FE f__law_other_store [a0, a1] nX Q = WS b__law_other_store [a0, a1, .no, .no, .no, .no, .no, .no] (FIN [a0, a1] nX Q) := fe_runF
def cg__law_other_log_1 : PyData → En → Res Unit := gN 7
def ce__law_other_log_1 : En → Res Op := sCall f__law_set (sCons (sV 0) (sNil))
def b__law_other_log : En → Out := seqS (sAsgT (gT 4 (gCn (gN 3) (gCn (gN 4) (gCn (gN 5) (gCn (gN 6) (gNl)))))) (sV 1))
  (seqS (sAsg 2 (sCall f__law_next (sCons (sV 0) (sCons (sC (.int 6)) (sNil)))))
  (seqS (sIfS (sTest (sP2 pLt (sV 2) (sC (.int 2)))) (sRet (sTup (sCons (sV 3) (sCons (sV 4) (sCons (sV 5) (sCons (sCall f__law_with_other (sCons (sV 0) (sCons (sV 6) (sNil)))) (sNil))))))) (sNext))
  (seqS (sIfS (sTest (sP2 pEq (sV 2) (sC (.int 2)))) (sRet (sTup (sCons (sV 3) (sCons (sCall f__law_other_store (sCons (sV 0) (sCons (sV 4) (sNil)))) (sCons (sV 5) (sCons (sV 6) (sNil))))))) (sNext))
  (seqS (sIfS (sTest (sP2 pEq (sV 2) (sC (.int 3)))) (sRet (sTup (sCons (sV 3) (sCons (sV 4) (sCons (sPN pTupOf (sCons (sLc (sItr (sV 5)) cg__law_other_log_1 sYes ce__law_other_log_1 [7]) (sNil))) (sCons (sV 6) (sNil))))))) (sNext))
  (sRet (sTup (sCons (sPN pMax (sCons (sC (.int 0)) (sCons (sP2 pSub (sP2 pAdd (sV 3) (sP2 pMul (sC (.int 2)) (sP2 pSub (sV 2) (sC (.int 4))))) (sC (.int 1))) (sNil)))) (sCons (sV 4) (sCons (sV 5) (sCons (sV 6) (sNil)))))))))))
def f__law_other_log : En → Res Op := runF 8 b__law_other_log
theorem fe__law_other_log {a0 a1 : Sl} {Q : Op → En → Prop} : FE f__law_other_log [a0, a1] nX Q = WS b__law_other_log [a0, a1, .no, .no, .no, .no, .no, .no] (FIN [a0, a1] nX Q) := fe_runF
def g_law_1 : PyData → En → Res Unit := gN 5
def l_law_1 : En → Out := kill [5] (kill [5] (sAsg 4 (sCall f_put (sCons (sV 4) (sCons (sV 5) (sNil))))))
def cg_law_1 : PyData → En → Res Unit := gN 16
def ce_law_1 : En → Res Op := sCall f__law_set (sCons (sV 1) (sNil))
def g_law_2 : PyData → En → Res Unit := gT 2 (gCn (gN 13) (gCn (gN 14) (gNl)))
def l_law_2 : En → Out := kill [13, 14, 15] (seqS (sAsg 15 (sCall f_does_agree (sCons (sV 10) (sCons (sV 13) (sCons (sV 14) (sNil))))))
  (kill [13, 14, 15] (sIfS (sOr (sNot (sTest (sIs PyData.isBool (sV 15)))) (sTest (sP2 pNe (sV 15) (sCall f__law_agrees (sCons (sV 10) (sCons (sV 13) (sCons (sV 14) (sNil)))))))) (sRet (sC (.bool false))) (sNext))))
def g_law_3 : PyData → En → Res Unit := gN 10
def l_law_3 : En → Out := kill [10, 11, 12, 13, 14, 15] (seqS (sAsg 11 (sPN pTupOf (sCons (sLc (sItr (sV 2)) cg_law_1 sYes ce_law_1 [16]) (sNil))))
  (seqS (kill [11] (sAsg 12 (sLst (sCons (sTup (sCons (sV 2) (sCons (sV 3) (sNil)))) (sCons (sTup (sCons (sV 2) (sCons (sSl (sV 3) (sNo) (sSome (sV 8))) (sNil)))) (sCons (sTup (sCons (sV 2) (sCons (sSl (sV 3) (sNo) (sSome (sPN pMax (sCons (sC (.int 0)) (sCons (sP2 pSub (sV 8) (sC (.int 1))) (sNil)))))) (sNil)))) (sCons (sTup (sCons (sV 11) (sCons (sV 3) (sNil)))) (sNil))))))))
  (kill [10, 12, 13, 14, 15] (sFor (sItr (sP2 pAdd (sV 12) (sLst (sCons (sTup (sCons (sV 2) (sCons (sCall f__law_with_other (sCons (sV 1) (sCons (sV 3) (sNil)))) (sNil)))) (sNil))))) g_law_2 l_law_2))))
def g_law_4 : PyData → En → Res Unit := gN 6
def l_law_4 : En → Out := kill [6, 7, 8, 9, 10, 11, 12, 13, 14, 15] (seqS (sAsg 7 (sCall f__law_next (sCons (sV 1) (sCons (sP2 pAdd (sPN pLen (sCons (sV 3) (sNil))) (sC (.int 1))) (sNil)))))
  (seqS (sAsg 8 (sP2 pAdd (sV 7) (sCall f__law_next (sCons (sV 1) (sCons (sP2 pAdd (sP2 pSub (sPN pLen (sCons (sV 3) (sNil))) (sV 7)) (sC (.int 1))) (sNil))))))
  (seqS (sAsg 9 (sTup (sCons (sV 7) (sCons (sCall f__law_behind (sCons (sTup (sCons (sTup (sNil)) (sCons (sTup (sNil)) (sNil)))) (sCons (sSl (sV 3) (sNo) (sSome (sV 7))) (sNil)))) (sCons (sCall f__law_led (sCons (sV 2) (sCons (sSl (sV 3) (sNo) (sSome (sV 7))) (sNil)))) (sCons (sSl (sV 3) (sSome (sV 7)) (sSome (sV 8))) (sNil)))))))
  (seqS (kill [8, 10, 11, 12, 13, 14, 15] (sFor (sItr (sLst (sCons (sV 9) (sCons (sCall f_cut_at (sCons (sV 4) (sCons (sV 7) (sNil)))) (sCons (sCall f__law_other_log (sCons (sV 1) (sCons (sV 9) (sNil)))) (sNil)))))) g_law_3 l_law_3))
  (kill [7, 9] (sIfS (sOr (sTest (sP2 (pIsB not) (sCall f_does_agree (sCons (sCall f_cut_at (sCons (sV 4) (sCons (sV 7) (sNil)))) (sCons (sV 2) (sCons (sV 3) (sNil))))) (sC (.bool true)))) (sTest (sP2 (pIsB not) (sCall f_does_agree (sCons (sV 9) (sCons (sV 2) (sCons (sV 3) (sNil))))) (sC (.bool true))))) (sRet (sC (.bool false))) (sNext)))))))
def b_law : En → Out := seqS (sAsg 1 (sCall f__law_state (sCons (sCall f__law_cell_at (sCons (sV 0) (sCons (sC (.int 0)) (sNil)))) (sCons (sC (.int 1)) (sNil)))))
  (seqS (kill [1] (sAsg 2 (sCall f__law_group (sCons (sV 1) (sNil)))))
  (seqS (sAsg 3 (sCall f__law_rows (sCons (sV 2) (sCons (sSl (sV 0) (sSome (sC (.int 2))) (sSome (sC (.int 100)))) (sCons (sC (.int 3)) (sNil))))))
  (seqS (sAsg 4 (sCall f_first_log (sCons (sV 2) (sNil))))
  (seqS (kill [5] (sFor (sItr (sV 3)) g_law_1 l_law_1))
  (seqS (sAsg 1 (sCall f__law_state (sCons (sCall f__law_cell_at (sCons (sV 0) (sCons (sC (.int 1)) (sNil)))) (sCons (sC (.int 50)) (sNil)))))
  (seqS (kill [1, 2, 3, 4, 6, 7, 8, 9, 10, 11, 12, 13, 14, 15] (sFor (sRng1 (sCons (sC (.int 2)) (sNil))) g_law_4 l_law_4))
  (sRet (sC (.bool true)))))))))
def f_law : En → Res Op := runF 17 b_law
theorem fe_law {a0 : Sl} {Q : Op → En → Prop} : FE f_law [a0] nX Q = WS b_law [a0, .no, .no, .no, .no, .no, .no, .no, .no, .no, .no, .no, .no, .no, .no, .no, .no] (FIN [a0] nX Q) := fe_runF
end k34
end Py
end L2

namespace L2
namespace Py
namespace k34
open PySem PySem.Spec PyProof.Rows
structure Tx (w : World) (K : PySem.W.Frag) (mg : Str → Option Value) (fa : Nat → Addr) (fd : Nat → FuncData) : Prop where
  F_group_after : Fun K "group_after" "group_after" s_group_after (fa 0) (fd 0)
  b_group_after : Binds K (fd 0) ["group", "row"] []
  g_group_after : mg "group_after" = some (.ref (fa 0))
  F_group_behind : Fun K "group_behind" "group_behind" s_group_behind (fa 1) (fd 1)
  b_group_behind : Binds K (fd 1) ["group", "rows"] []
  g_group_behind : mg "group_behind" = some (.ref (fa 1))
  F_first_store : Fun K "first_store" "first_store" s_first_store (fa 2) (fd 2)
  b_first_store : Binds K (fd 2) [] []
  g_first_store : mg "first_store" = some (.ref (fa 2))
  F_worth : Fun K "worth" "worth" s_worth (fa 3) (fd 3)
  b_worth : Binds K (fd 3) ["store", "key"] []
  g_worth : mg "worth" = some (.ref (fa 3))
  F_last_of : Fun K "last_of" "last_of" s_last_of (fa 4) (fd 4)
  b_last_of : Binds K (fd 4) ["store", "client"] []
  g_last_of : mg "last_of" = some (.ref (fa 4))
  F_with_one : Fun K "with_one" "with_one" s_with_one (fa 5) (fd 5)
  b_with_one : Binds K (fd 5) ["things", "fresh"] []
  g_with_one : mg "with_one" = some (.ref (fa 5))
  F_done : Fun K "done" "done" s_done (fa 6) (fd 6)
  b_done : Binds K (fd 6) ["store", "row"] []
  g_done : mg "done" = some (.ref (fa 6))
  F_all_done : Fun K "all_done" "all_done" s_all_done (fa 7) (fd 7)
  b_all_done : Binds K (fd 7) ["store", "rows"] []
  g_all_done : mg "all_done" = some (.ref (fa 7))
  F_first_log : Fun K "first_log" "first_log" s_first_log (fa 8) (fd 8)
  b_first_log : Binds K (fd 8) ["group"] []
  g_first_log : mg "first_log" = some (.ref (fa 8))
  F_length : Fun K "length" "length" s_length (fa 9) (fd 9)
  b_length : Binds K (fd 9) ["log"] []
  g_length : mg "length" = some (.ref (fa 9))
  F_store_at : Fun K "store_at" "store_at" s_store_at (fa 10) (fd 10)
  b_store_at : Binds K (fd 10) ["log", "count"] []
  g_store_at : mg "store_at" = some (.ref (fa 10))
  F_put : Fun K "put" "put" s_put (fa 11) (fd 11)
  b_put : Binds K (fd 11) ["log", "row"] []
  g_put : mg "put" = some (.ref (fa 11))
  F_cut_at : Fun K "cut_at" "cut_at" s_cut_at (fa 12) (fd 12)
  b_cut_at : Binds K (fd 12) ["log", "count"] []
  g_cut_at : mg "cut_at" = some (.ref (fa 12))
  F_does_agree : Fun K "does_agree" "does_agree" s_does_agree (fa 13) (fd 13)
  b_does_agree : Binds K (fd 13) ["log", "group", "rows"] []
  g_does_agree : mg "does_agree" = some (.ref (fa 13))
  F__law_cell_at : Fun K "_law_cell_at" "_law_cell_at" s__law_cell_at (fa 14) (fd 14)
  b__law_cell_at : Binds K (fd 14) ["_law_script", "_law_k"] []
  g__law_cell_at : mg "_law_cell_at" = some (.ref (fa 14))
  F__law_state : Fun K "_law_state" "_law_state" s__law_state (fa 15) (fd 15)
  b__law_state : Binds K (fd 15) ["_law_cell", "_law_k"] []
  g__law_state : mg "_law_state" = some (.ref (fa 15))
  F__law_next : Fun K "_law_next" "_law_next" s__law_next (fa 16) (fd 16)
  b__law_next : Binds K (fd 16) ["_law_state_here", "_law_many"] []
  g__law_next : mg "_law_next" = some (.ref (fa 16))
  F__law_wide : Fun K "_law_wide" "_law_wide" s__law_wide (fa 17) (fd 17)
  b__law_wide : Binds K (fd 17) ["_law_state_here"] []
  g__law_wide : mg "_law_wide" = some (.ref (fa 17))
  F__law_value : Fun K "_law_value" "_law_value" s__law_value (fa 18) (fd 18)
  b__law_value : Binds K (fd 18) ["_law_state_here"] []
  g__law_value : mg "_law_value" = some (.ref (fa 18))
  F__law_letter : Fun K "_law_letter" "_law_letter" s__law_letter (fa 19) (fd 19)
  b__law_letter : Binds K (fd 19) ["_law_state_here"] []
  g__law_letter : mg "_law_letter" = some (.ref (fa 19))
  F__law_deed : Fun K "_law_deed" "_law_deed" s__law_deed (fa 20) (fd 20)
  b__law_deed : Binds K (fd 20) ["_law_state_here"] []
  g__law_deed : mg "_law_deed" = some (.ref (fa 20))
  F__law_small : Fun K "_law_small" "_law_small" s__law_small (fa 21) (fd 21)
  b__law_small : Binds K (fd 21) ["_law_state_here", "_law_most"] []
  g__law_small : mg "_law_small" = some (.ref (fa 21))
  F__law_set : Fun K "_law_set" "_law_set" s__law_set (fa 22) (fd 22)
  b__law_set : Binds K (fd 22) ["_law_state_here"] []
  g__law_set : mg "_law_set" = some (.ref (fa 22))
  F__law_group : Fun K "_law_group" "_law_group" s__law_group (fa 23) (fd 23)
  b__law_group : Binds K (fd 23) ["_law_state_here"] []
  g__law_group : mg "_law_group" = some (.ref (fa 23))
  F__law_row : Fun K "_law_row" "_law_row" s__law_row (fa 24) (fd 24)
  b__law_row : Binds K (fd 24) ["_law_state_here", "_law_sets"] []
  g__law_row : mg "_law_row" = some (.ref (fa 24))
  F__law_one_done : Fun K "_law_one_done" "_law_one_done" s__law_one_done (fa 25) (fd 25)
  b__law_one_done : Binds K (fd 25) ["_law_values", "_law_last", "_law_row_here"] []
  g__law_one_done : mg "_law_one_done" = some (.ref (fa 25))
  F__law_told : Fun K "_law_told" "_law_told" s__law_told (fa 26) (fd 26)
  b__law_told : Binds K (fd 26) ["_law_values", "_law_last"] []
  g__law_told : mg "_law_told" = some (.ref (fa 26))
  F__law_parts : Fun K "_law_parts" "_law_parts" s__law_parts (fa 27) (fd 27)
  b__law_parts : Binds K (fd 27) ["_law_store"] []
  g__law_parts : mg "_law_parts" = some (.ref (fa 27))
  F__law_behind : Fun K "_law_behind" "_law_behind" s__law_behind (fa 28) (fd 28)
  b__law_behind : Binds K (fd 28) ["_law_store", "_law_rows_here"] []
  g__law_behind : mg "_law_behind" = some (.ref (fa 28))
  F__law_led : Fun K "_law_led" "_law_led" s__law_led (fa 29) (fd 29)
  b__law_led : Binds K (fd 29) ["_law_group_here", "_law_rows_here"] []
  g__law_led : mg "_law_led" = some (.ref (fa 29))
  F__law_rows : Fun K "_law_rows" "_law_rows" s__law_rows (fa 30) (fd 30)
  b__law_rows : Binds K (fd 30) ["_law_group_here", "_law_cells", "_law_k"] []
  g__law_rows : mg "_law_rows" = some (.ref (fa 30))
  F__law_agrees : Fun K "_law_agrees" "_law_agrees" s__law_agrees (fa 31) (fd 31)
  b__law_agrees : Binds K (fd 31) ["_law_log", "_law_group_here", "_law_rows_here"] []
  g__law_agrees : mg "_law_agrees" = some (.ref (fa 31))
  F__law_other_row : Fun K "_law_other_row" "_law_other_row" s__law_other_row (fa 32) (fd 32)
  b__law_other_row : Binds K (fd 32) ["_law_state_here", "_law_row_here"] []
  g__law_other_row : mg "_law_other_row" = some (.ref (fa 32))
  F__law_with_other : Fun K "_law_with_other" "_law_with_other" s__law_with_other (fa 33) (fd 33)
  b__law_with_other : Binds K (fd 33) ["_law_state_here", "_law_rows_here"] []
  g__law_with_other : mg "_law_with_other" = some (.ref (fa 33))
  F__law_other_store : Fun K "_law_other_store" "_law_other_store" s__law_other_store (fa 34) (fd 34)
  b__law_other_store : Binds K (fd 34) ["_law_state_here", "_law_store"] []
  g__law_other_store : mg "_law_other_store" = some (.ref (fa 34))
  F__law_other_log : Fun K "_law_other_log" "_law_other_log" s__law_other_log (fa 35) (fd 35)
  b__law_other_log : Binds K (fd 35) ["_law_state_here", "_law_log"] []
  g__law_other_log : mg "_law_other_log" = some (.ref (fa 35))
  F_law : Fun K "law" "law" s_law (fa 36) (fd 36)
  b_law : Binds K (fd 36) ["_law_script"] []
  g_law : mg "law" = some (.ref (fa 36))
  z_bool : mg "bool" = none
  z_dict : mg "dict" = none
  z_enumerate : mg "enumerate" = none
  z_isinstance : mg "isinstance" = none
  z_len : mg "len" = none
  z_list : mg "list" = none
  z_max : mg "max" = none
  z_range : mg "range" = none
  z_sorted : mg "sorted" = none
  z_tuple : mg "tuple" = none
section
variable {P : Program} {w : World} {K : PySem.W.Frag} {mg : Str → Option Value} {base : Heap} {fa : Nat → Addr} {fd : Nat → FuncData}
theorem ok_group_after (T : Tx w K mg fa fd) : FnOk P w K mg base CX0 1 (fa 0) (fd 0) ["group", "row"] (spF K 2 f_group_after) := fn_sound T.F_group_after sc_group_after (by decide) fun cdv A outer s H E hr => (by
  unfold b_group_after 
  exact (dss_cons (ds_if (dt_eq hr (de_sub1 (de_var 1 (pv 1)) de_int) de_str) (dss_one (ds_ret (de_var 0 (pv 0)))) dss_nil)
  (dss_cons (ds_if (dt_w (dw_and (dt_eq hr (de_sub1 (de_var 1 (pv 1)) de_int) de_str) (dw_and1 (dt_eq hr (de_blt call_len pn_len (by rfl) T.z_len boot_len' (da_cons (de_var 0 (pv 0)) da_nil)) de_int)))) (dss_one (ds_ret (de_tup (da_cons (de_sub1 (de_var 0 (pv 0)) de_int) (da_cons (de_sub1 (de_var 1 (pv 1)) de_int) da_nil))))) dss_nil)
  (dss_cons (ds_if (dt_w (dw_and (dt_eq hr (de_sub1 (de_var 1 (pv 1)) de_int) de_str) (dw_and1 (dt_eq hr (de_blt call_len pn_len (by rfl) T.z_len boot_len' (da_cons (de_var 0 (pv 0)) da_nil)) de_int)))) (dss_one (ds_ret (de_tup (da_cons (de_sub1 (de_var 0 (pv 0)) de_int) da_nil)))) dss_nil)
  (dss_one (ds_ret de_none))))))
theorem ok_group_behind (T : Tx w K mg fa fd) : FnOk P w K mg base CX0 2 (fa 1) (fd 1) ["group", "rows"] (spF K 2 f_group_behind) := fn_sound T.F_group_behind sc_group_behind (by decide) fun cdv A outer s H E hr => (by
  unfold b_group_behind l_group_behind_1 g_group_behind_1
  exact (dss_cons (ds_kill [2] (ds_for flat0 PassesOwn.never rfl (di_seq (de_var 1 (pv 1))) (dg_name (i := 2) sc_group_behind.nd rfl (Or.inl rfl)) (dss_kill [2] (dss_cons (ds_kill [2] (ds_asg (i := 0) sc_group_behind.nd rfl (Or.inl rfl) (de_call (ok_group_after T) (hr.mono (by decide)) (by rfl) T.g_group_after T.F_group_after.kp T.b_group_after (da_cons (de_var 0 (pv 0)) (da_cons (de_var 2 (pv 2)) da_nil)) rfl)))
  (dss_one (ds_if (dt_is (de_var 0 (pv 0)) de_none) (dss_one (ds_ret de_none)) dss_nil))))))
  (dss_one (ds_ret (de_var 0 (pv 0))))))
theorem ok_first_store (T : Tx w K mg fa fd) : FnOk P w K mg base CX0 1 (fa 2) (fd 2) [] (spF K 0 f_first_store) := fn_sound T.F_first_store sc_first_store (by decide) fun cdv A outer s H E hr => (by
  unfold b_first_store 
  exact (dss_one (ds_ret (de_tup (da_cons (de_tup da_nil) (da_cons (de_tup da_nil) da_nil))))))
theorem ok_worth (T : Tx w K mg fa fd) : FnOk P w K mg base CX0 1 (fa 3) (fd 3) ["store", "key"] (spF K 2 f_worth) := fn_sound T.F_worth sc_worth (by decide) fun cdv A outer s H E hr => (by
  unfold b_worth l_worth_1 g_worth_1
  exact (dss_cons (ds_kill [2, 3] (ds_for flat0 PassesOwn.never rfl (di_seq (de_sub1 (de_var 0 (pv 0)) de_int)) (dg_tup rfl (dgs_cons (dg_name (i := 2) sc_worth.nd rfl (Or.inl rfl)) (dgs_cons (dg_name (i := 3) sc_worth.nd rfl (Or.inl rfl)) dgs_nil))) (dss_kill [2, 3] (dss_one (ds_kill [2, 3] (ds_if (dt_eq hr (de_var 2 (pv 2)) (de_var 1 (pv 1))) (dss_one (ds_ret (de_var 3 (pv 3)))) dss_nil))))))
  (dss_one (ds_ret de_int))))
theorem ok_last_of (T : Tx w K mg fa fd) : FnOk P w K mg base CX0 1 (fa 4) (fd 4) ["store", "client"] (spF K 2 f_last_of) := fn_sound T.F_last_of sc_last_of (by decide) fun cdv A outer s H E hr => (by
  unfold b_last_of l_last_of_1 g_last_of_1
  exact (dss_cons (ds_kill [2, 3, 4] (ds_for flat0 PassesOwn.never rfl (di_seq (de_sub1 (de_var 0 (pv 0)) de_int)) (dg_tup rfl (dgs_cons (dg_name (i := 2) sc_last_of.nd rfl (Or.inl rfl)) (dgs_cons (dg_name (i := 3) sc_last_of.nd rfl (Or.inl rfl)) (dgs_cons (dg_name (i := 4) sc_last_of.nd rfl (Or.inl rfl)) dgs_nil)))) (dss_kill [2, 3, 4] (dss_one (ds_kill [2, 3, 4] (ds_if (dt_eq hr (de_var 2 (pv 2)) (de_var 1 (pv 1))) (dss_one (ds_ret (de_tup (da_cons (de_var 3 (pv 3)) (da_cons (de_var 4 (pv 4)) da_nil))))) dss_nil))))))
  (dss_one (ds_ret de_none))))
theorem ok_with_one (T : Tx w K mg fa fd) : FnOk P w K mg base CX0 1 (fa 5) (fd 5) ["things", "fresh"] (spF K 2 f_with_one) := fn_sound T.F_with_one sc_with_one (by decide) fun cdv A outer s H E hr => (by
  unfold b_with_one ce_with_one_1 ct_with_one_1 cg_with_one_1
  exact (dss_one (ds_ret (de_ty call_tupP pn_tupOf (by rfl) T.z_tuple boot_tuple' (da_cons (de_blt (cr_sortD hr.units) pn_sorted (by rfl) T.z_sorted boot_sorted' (da_cons (de_add (de_lc (own := [("one", 2)]) rfl sc_with_one.nd (di_seq (de_var 0 (pv 0))) (blkOk_by (own := [("one", 2)]) (by rfl)) (by decide) (fun _ _ _ _ _ => (dg_name (i := 2) sc_with_one.nd rfl (Or.inl rfl))) (fun _ _ _ _ _ => (dts_one (dt_ne hr (de_sub1 (de_var 2 (pv 2)) de_int) (de_sub1 (de_var 1 (pv 1)) de_int)))) (fun _ _ _ _ _ => (de_var 2 (pv 2)))) (de_lst (da_cons (de_var 1 (pv 1)) da_nil))) da_nil)) da_nil)))))
theorem ok_done (T : Tx w K mg fa fd) : FnOk P w K mg base CX0 2 (fa 6) (fd 6) ["store", "row"] (spF K 2 f_done) := fn_sound T.F_done sc_done (by decide) fun cdv A outer s H E hr => (by
  unfold b_done 
  exact (dss_cons (ds_if (dt_ne hr (de_sub1 (de_var 1 (pv 1)) de_int) de_str) (dss_one (ds_ret (de_var 0 (pv 0)))) dss_nil)
  (dss_cons (ds_kill [5] (ds_asgT (dg_tup rfl (dgs_cons (dg_name (i := 5) sc_done.nd rfl (Or.inl rfl)) (dgs_cons (dg_name (i := 6) sc_done.nd rfl (Or.inl rfl)) (dgs_cons (dg_name (i := 7) sc_done.nd rfl (Or.inl rfl)) (dgs_cons (dg_name (i := 8) sc_done.nd rfl (Or.inl rfl)) dgs_nil))))) (de_var 1 (pv 1)) (noexc := (gT_noexc (gCn_noexc (fun _ _ _ _ => gN_noexc) (gCn_noexc (fun _ _ _ _ => gN_noexc) (gCn_noexc (fun _ _ _ _ => gN_noexc) (gCn_noexc (fun _ _ _ _ => gN_noexc) gNl_noexc))))))))
  (dss_cons (ds_asg (i := 2) sc_done.nd rfl (Or.inl rfl) (de_call (ok_last_of T) (hr.mono (by decide)) (by rfl) T.g_last_of T.F_last_of.kp T.b_last_of (da_cons (de_var 0 (pv 0)) (da_cons (de_var 6 (pv 6)) da_nil)) rfl))
  (dss_cons (ds_kill [2] (ds_if (dt_w (dw_and (dt_isnot (de_var 2 (pv 2)) de_none) (dw_and1 (dt_ge hr (de_sub1 (de_var 2 (pv 2)) de_int) (de_var 7 (pv 7)))))) (dss_one (ds_ret (de_var 0 (pv 0)))) dss_nil))
  (dss_cons (ds_asg (i := 3) sc_done.nd rfl (Or.inl rfl) (de_sub1 (de_var 0 (pv 0)) de_int))
  (dss_cons (ds_asg (i := 4) sc_done.nd rfl (Or.inl rfl) (de_call (ok_worth T) (hr.mono (by decide)) (by rfl) T.g_worth T.F_worth.kp T.b_worth (da_cons (de_var 0 (pv 0)) (da_cons (de_sub1 (de_var 8 (pv 8)) de_int) da_nil)) rfl))
  (dss_cons (ds_if (dt_eq hr (de_sub1 (de_var 8 (pv 8)) de_int) de_str) (dss_one (ds_asg (i := 3) sc_done.nd rfl (Or.inl rfl) (de_call (ok_with_one T) (hr.mono (by decide)) (by rfl) T.g_with_one T.F_with_one.kp T.b_with_one (da_cons (de_var 3 (pv 3)) (da_cons (de_tup (da_cons (de_sub1 (de_var 8 (pv 8)) de_int) (da_cons (de_sub1 (de_var 8 (pv 8)) de_int) da_nil))) da_nil)) rfl))) dss_nil)
  (dss_cons (ds_kill [8] (ds_if (dt_eq hr (de_sub1 (de_var 8 (pv 8)) de_int) de_str) (dss_cons (ds_asg (i := 4) sc_done.nd rfl (Or.inl rfl) (de_add (de_var 4 (pv 4)) (de_sub1 (de_var 8 (pv 8)) de_int)))
  (dss_one (ds_kill [8] (ds_asg (i := 3) sc_done.nd rfl (Or.inl rfl) (de_call (ok_with_one T) (hr.mono (by decide)) (by rfl) T.g_with_one T.F_with_one.kp T.b_with_one (da_cons (de_var 3 (pv 3)) (da_cons (de_tup (da_cons (de_sub1 (de_var 8 (pv 8)) de_int) (da_cons (de_var 4 (pv 4)) da_nil))) da_nil)) rfl))))) dss_nil))
  (dss_one (ds_ret (de_tup (da_cons (de_var 3 (pv 3)) (da_cons (de_call (ok_with_one T) (hr.mono (by decide)) (by rfl) T.g_with_one T.F_with_one.kp T.b_with_one (da_cons (de_sub1 (de_var 0 (pv 0)) de_int) (da_cons (de_tup (da_cons (de_var 6 (pv 6)) (da_cons (de_var 7 (pv 7)) (da_cons (de_var 4 (pv 4)) da_nil)))) da_nil)) rfl) da_nil))))))))))))))
theorem ok_all_done (T : Tx w K mg fa fd) : FnOk P w K mg base CX0 3 (fa 7) (fd 7) ["store", "rows"] (spF K 2 f_all_done) := fn_sound T.F_all_done sc_all_done (by decide) fun cdv A outer s H E hr => (by
  unfold b_all_done l_all_done_1 g_all_done_1
  exact (dss_cons (ds_kill [2] (ds_for flat0 PassesOwn.never rfl (di_seq (de_var 1 (pv 1))) (dg_name (i := 2) sc_all_done.nd rfl (Or.inl rfl)) (dss_kill [2] (dss_one (ds_kill [2] (ds_asg (i := 0) sc_all_done.nd rfl (Or.inl rfl) (de_call (ok_done T) (hr.mono (by decide)) (by rfl) T.g_done T.F_done.kp T.b_done (da_cons (de_var 0 (pv 0)) (da_cons (de_var 2 (pv 2)) da_nil)) rfl)))))))
  (dss_one (ds_ret (de_var 0 (pv 0))))))
theorem ok_first_log (T : Tx w K mg fa fd) : FnOk P w K mg base CX0 2 (fa 8) (fd 8) ["group"] (spF K 1 f_first_log) := fn_sound T.F_first_log sc_first_log (by decide) fun cdv A outer s H E hr => (by
  unfold b_first_log 
  exact (dss_one (ds_ret (de_tup (da_cons de_int (da_cons (de_call0 (ok_first_store T) (hr.mono (by decide)) (by rfl) T.g_first_store T.F_first_store.kp T.b_first_store) (da_cons (de_var 0 (pv 0)) (da_cons (de_tup da_nil) da_nil))))))))
theorem ok_length (T : Tx w K mg fa fd) : FnOk P w K mg base CX0 1 (fa 9) (fd 9) ["log"] (spF K 1 f_length) := fn_sound T.F_length sc_length (by decide) fun cdv A outer s H E hr => (by
  unfold b_length 
  exact (dss_one (ds_ret (de_add (de_sub1 (de_var 0 (pv 0)) de_int) (de_blt call_len pn_len (by rfl) T.z_len boot_len' (da_cons (de_sub1 (de_var 0 (pv 0)) de_int) da_nil))))))
theorem ok_store_at (T : Tx w K mg fa fd) : FnOk P w K mg base CX0 4 (fa 10) (fd 10) ["log", "count"] (spF K 2 f_store_at) := fn_sound T.F_store_at sc_store_at (by decide) fun cdv A outer s H E hr => (by
  unfold b_store_at 
  exact (dss_one (ds_ret (de_call (ok_all_done T) (hr.mono (by decide)) (by rfl) T.g_all_done T.F_all_done.kp T.b_all_done (da_cons (de_sub1 (de_var 0 (pv 0)) de_int) (da_cons (de_slice (de_sub1 (de_var 0 (pv 0)) de_int) do_none (do_some (de_sub (de_var 1 (pv 1)) (de_sub1 (de_var 0 (pv 0)) de_int)))) da_nil)) rfl))))
theorem ok_put (T : Tx w K mg fa fd) : FnOk P w K mg base CX0 1 (fa 11) (fd 11) ["log", "row"] (spF K 2 f_put) := fn_sound T.F_put sc_put (by decide) fun cdv A outer s H E hr => (by
  unfold b_put 
  exact (dss_cons (ds_asgT (dg_tup rfl (dgs_cons (dg_name (i := 2) sc_put.nd rfl (Or.inl rfl)) (dgs_cons (dg_name (i := 3) sc_put.nd rfl (Or.inl rfl)) (dgs_cons (dg_name (i := 4) sc_put.nd rfl (Or.inl rfl)) (dgs_cons (dg_name (i := 5) sc_put.nd rfl (Or.inl rfl)) dgs_nil))))) (de_var 0 (pv 0)) (noexc := (gT_noexc (gCn_noexc (fun _ _ _ _ => gN_noexc) (gCn_noexc (fun _ _ _ _ => gN_noexc) (gCn_noexc (fun _ _ _ _ => gN_noexc) (gCn_noexc (fun _ _ _ _ => gN_noexc) gNl_noexc)))))))
  (dss_one (ds_ret (de_tup (da_cons (de_var 2 (pv 2)) (da_cons (de_var 3 (pv 3)) (da_cons (de_var 4 (pv 4)) (da_cons (de_add (de_var 5 (pv 5)) (de_tup (da_cons (de_var 1 (pv 1)) da_nil))) da_nil)))))))))
theorem ok_cut_at (T : Tx w K mg fa fd) : FnOk P w K mg base CX0 5 (fa 12) (fd 12) ["log", "count"] (spF K 2 f_cut_at) := fn_sound T.F_cut_at sc_cut_at (by decide) fun cdv A outer s H E hr => (by
  unfold b_cut_at 
  exact (dss_cons (ds_kill [4] (ds_asgT (dg_tup rfl (dgs_cons (dg_name (i := 3) sc_cut_at.nd rfl (Or.inl rfl)) (dgs_cons (dg_name (i := 4) sc_cut_at.nd rfl (Or.inl rfl)) (dgs_cons (dg_name (i := 5) sc_cut_at.nd rfl (Or.inl rfl)) (dgs_cons (dg_name (i := 6) sc_cut_at.nd rfl (Or.inl rfl)) dgs_nil))))) (de_var 0 (pv 0)) (noexc := (gT_noexc (gCn_noexc (fun _ _ _ _ => gN_noexc) (gCn_noexc (fun _ _ _ _ => gN_noexc) (gCn_noexc (fun _ _ _ _ => gN_noexc) (gCn_noexc (fun _ _ _ _ => gN_noexc) gNl_noexc))))))))
  (dss_cons (ds_kill [3] (ds_asg (i := 2) sc_cut_at.nd rfl (Or.inl rfl) (de_sub (de_var 1 (pv 1)) (de_var 3 (pv 3)))))
  (dss_one (ds_ret (de_tup (da_cons (de_var 1 (pv 1)) (da_cons (de_call (ok_store_at T) (hr.mono (by decide)) (by rfl) T.g_store_at T.F_store_at.kp T.b_store_at (da_cons (de_var 0 (pv 0)) (da_cons (de_var 1 (pv 1)) da_nil)) rfl) (da_cons (de_call (ok_group_behind T) (hr.mono (by decide)) (by rfl) T.g_group_behind T.F_group_behind.kp T.b_group_behind (da_cons (de_var 5 (pv 5)) (da_cons (de_slice (de_var 6 (pv 6)) do_none (do_some (de_var 2 (pv 2)))) da_nil)) rfl) (da_cons (de_slice (de_var 6 (pv 6)) (do_some (de_var 2 (pv 2))) do_none) da_nil))))))))))
theorem ok_does_agree (T : Tx w K mg fa fd) : FnOk P w K mg base CX0 4 (fa 13) (fd 13) ["log", "group", "rows"] (spF K 3 f_does_agree) := fn_sound T.F_does_agree sc_does_agree (by decide) fun cdv A outer s H E hr => (by
  unfold b_does_agree 
  exact (dss_cons (ds_asgT (dg_tup rfl (dgs_cons (dg_name (i := 3) sc_does_agree.nd rfl (Or.inl rfl)) (dgs_cons (dg_name (i := 4) sc_does_agree.nd rfl (Or.inl rfl)) (dgs_cons (dg_name (i := 5) sc_does_agree.nd rfl (Or.inl rfl)) (dgs_cons (dg_name (i := 6) sc_does_agree.nd rfl (Or.inl rfl)) dgs_nil))))) (de_var 0 (pv 0)) (noexc := (gT_noexc (gCn_noexc (fun _ _ _ _ => gN_noexc) (gCn_noexc (fun _ _ _ _ => gN_noexc) (gCn_noexc (fun _ _ _ _ => gN_noexc) (gCn_noexc (fun _ _ _ _ => gN_noexc) gNl_noexc)))))))
  (dss_cons (ds_if (dt_lt hr (de_blt call_len pn_len (by rfl) T.z_len boot_len' (da_cons (de_var 2 (pv 2)) da_nil)) (de_call (ok_length T) (hr.mono (by decide)) (by rfl) T.g_length T.F_length.kp T.b_length (da_cons (de_var 0 (pv 0)) da_nil) rfl)) (dss_one (ds_ret de_bool)) dss_nil)
  (dss_cons (ds_kill [4, 5] (ds_if (dt_w (dw_or (dt_ne hr (de_var 4 (pv 4)) (de_call (ok_all_done T) (hr.mono (by decide)) (by rfl) T.g_all_done T.F_all_done.kp T.b_all_done (da_cons (de_call0 (ok_first_store T) (hr.mono (by decide)) (by rfl) T.g_first_store T.F_first_store.kp T.b_first_store) (da_cons (de_slice (de_var 2 (pv 2)) do_none (do_some (de_var 3 (pv 3)))) da_nil)) rfl)) (dw_or1 (dt_ne hr (de_var 5 (pv 5)) (de_call (ok_group_behind T) (hr.mono (by decide)) (by rfl) T.g_group_behind T.F_group_behind.kp T.b_group_behind (da_cons (de_var 1 (pv 1)) (da_cons (de_slice (de_var 2 (pv 2)) do_none (do_some (de_var 3 (pv 3)))) da_nil)) rfl))))) (dss_one (ds_ret de_bool)) dss_nil))
  (dss_one (ds_ret (de_eq hr (de_var 6 (pv 6)) (de_ty call_tupP pn_tupOf (by rfl) T.z_tuple boot_tuple' (da_cons (de_slice (de_var 2 (pv 2)) (do_some (de_var 3 (pv 3))) (do_some (de_call (ok_length T) (hr.mono (by decide)) (by rfl) T.g_length T.F_length.kp T.b_length (da_cons (de_var 0 (pv 0)) da_nil) rfl))) da_nil)))))))))
theorem ok__law_cell_at (T : Tx w K mg fa fd) : FnOk P w K mg base CX0 1 (fa 14) (fd 14) ["_law_script", "_law_k"] (spF K 2 f__law_cell_at) := fn_sound T.F__law_cell_at sc__law_cell_at (by decide) fun cdv A outer s H E hr => (by
  unfold b__law_cell_at 
  exact (dss_cons (ds_if (dt_lt hr (de_var 1 (pv 1)) (de_blt call_len pn_len (by rfl) T.z_len boot_len' (da_cons (de_var 0 (pv 0)) da_nil))) (dss_one (ds_ret (de_sub1 (de_var 0 (pv 0)) (de_var 1 (pv 1))))) dss_nil)
  (dss_one (ds_ret de_int))))
theorem ok__law_state (T : Tx w K mg fa fd) : FnOk P w K mg base CX0 1 (fa 15) (fd 15) ["_law_cell", "_law_k"] (spF K 2 f__law_state) := fn_sound T.F__law_state sc__law_state (by decide) fun cdv A outer s H E hr => (by
  unfold b__law_state 
  exact (dss_cons (ds_if (dt_ge hr (de_var 0 (pv 0)) (de_pow de_int de_int)) (dss_one (ds_ret (de_lst (da_cons (de_var 0 (pv 0)) (da_cons (de_add (de_mod (de_var 0 (pv 0)) de_int) (de_var 1 (pv 1))) da_nil))))) dss_nil)
  (dss_one (ds_ret (de_lst (da_cons de_int (da_cons (de_add (de_mod (de_mul (de_add (de_add (de_mod (de_var 0 (pv 0)) de_int) (de_mul de_int (de_var 1 (pv 1)))) de_int) de_int) de_int) (de_var 1 (pv 1))) da_nil)))))))
theorem ok__law_next (T : Tx w K mg fa fd) : FnOk P w K mg base CX0 1 (fa 16) (fd 16) ["_law_state_here", "_law_many"] (spF K 2 f__law_next) := fn_sound T.F__law_next sc__law_next (by decide) fun cdv A outer s H E hr => (by
  unfold b__law_next 
  exact (dss_cons (ds_kill [3] (ds_if (dt_gt hr (de_sub1 (de_var 0 (pv 0)) de_int) de_int) (dss_cons (ds_asg (i := 3) sc__law_next.nd rfl (Or.inl rfl) (de_mod (de_sub1 (de_var 0 (pv 0)) de_int) (de_var 1 (pv 1))))
  (dss_cons (ds_set (pv 0) de_int (de_divW (de_sub1 (de_var 0 (pv 0)) de_int) (de_var 1 (pv 1))))
  (dss_one (ds_ret (de_var 3 (pv 3)))))) dss_nil))
  (dss_cons (ds_asg (i := 2) sc__law_next.nd rfl (Or.inl rfl) (de_add (de_mul (de_sub1 (de_var 0 (pv 0)) de_int) (de_add (de_mod (de_sub1 (de_var 0 (pv 0)) de_int) de_int) de_int)) de_int))
  (dss_cons (ds_kill [2] (ds_set (pv 0) de_int (de_mod (de_var 2 (pv 2)) de_int)))
  (dss_one (ds_ret (de_mod (de_divW (de_sub1 (de_var 0 (pv 0)) de_int) de_int) (de_var 1 (pv 1)))))))))
theorem ok__law_wide (T : Tx w K mg fa fd) : FnOk P w K mg base CX0 2 (fa 17) (fd 17) ["_law_state_here"] (spF K 1 f__law_wide) := fn_sound T.F__law_wide sc__law_wide (by decide) fun cdv A outer s H E hr => (by
  unfold b__law_wide l__law_wide_1 g__law_wide_1
  exact (dss_cons (ds_asg (i := 1) sc__law_wide.nd rfl (Or.inl rfl) de_int)
  (dss_cons (ds_kill [2] (ds_for flat0 PassesOwn.never rfl (di_rng1 (by rfl) T.z_range (da_cons de_int da_nil)) (dg_name (i := 2) sc__law_wide.nd rfl (Or.inl rfl)) (dss_kill [2] (dss_one (ds_asg (i := 1) sc__law_wide.nd rfl (Or.inl rfl) (de_add (de_mul (de_var 1 (pv 1)) (de_pow de_int de_int)) (de_call (ok__law_next T) (hr.mono (by decide)) (by rfl) T.g__law_next T.F__law_next.kp T.b__law_next (da_cons (de_var 0 (pv 0)) (da_cons (de_pow de_int de_int) da_nil)) rfl)))))))
  (dss_one (ds_ret (de_var 1 (pv 1)))))))
theorem ok__law_value (T : Tx w K mg fa fd) : FnOk P w K mg base CX0 3 (fa 18) (fd 18) ["_law_state_here"] (spF K 1 f__law_value) := fn_sound T.F__law_value sc__law_value (by decide) fun cdv A outer s H E hr => (by
  unfold b__law_value 
  exact (dss_cons (ds_asg (i := 1) sc__law_value.nd rfl (Or.inl rfl) (de_call (ok__law_next T) (hr.mono (by decide)) (by rfl) T.g__law_next T.F__law_next.kp T.b__law_next (da_cons (de_var 0 (pv 0)) (da_cons de_int da_nil)) rfl))
  (dss_cons (ds_if (dt_eq hr (de_var 1 (pv 1)) de_int) (dss_one (ds_ret (de_sub (de_call (ok__law_next T) (hr.mono (by decide)) (by rfl) T.g__law_next T.F__law_next.kp T.b__law_next (da_cons (de_var 0 (pv 0)) (da_cons de_int da_nil)) rfl) de_int))) dss_nil)
  (dss_cons (ds_if (dt_eq hr (de_var 1 (pv 1)) de_int) (dss_one (ds_ret (de_call (ok__law_wide T) (hr.mono (by decide)) (by rfl) T.g__law_wide T.F__law_wide.kp T.b__law_wide (da_cons (de_var 0 (pv 0)) da_nil) rfl))) dss_nil)
  (dss_cons (ds_kill [1] (ds_if (dt_eq hr (de_var 1 (pv 1)) de_int) (dss_one (ds_ret (de_sub de_int (de_call (ok__law_wide T) (hr.mono (by decide)) (by rfl) T.g__law_wide T.F__law_wide.kp T.b__law_wide (da_cons (de_var 0 (pv 0)) da_nil) rfl)))) dss_nil))
  (dss_one (ds_ret (de_sub (de_call (ok__law_next T) (hr.mono (by decide)) (by rfl) T.g__law_next T.F__law_next.kp T.b__law_next (da_cons (de_var 0 (pv 0)) (da_cons de_int da_nil)) rfl) de_int))))))))
theorem ok__law_letter (T : Tx w K mg fa fd) : FnOk P w K mg base CX0 2 (fa 19) (fd 19) ["_law_state_here"] (spF K 1 f__law_letter) := fn_sound T.F__law_letter sc__law_letter (by decide) fun cdv A outer s H E hr => (by
  unfold b__law_letter 
  exact (dss_cons (ds_if (dt_eq hr (de_call (ok__law_next T) (hr.mono (by decide)) (by rfl) T.g__law_next T.F__law_next.kp T.b__law_next (da_cons (de_var 0 (pv 0)) (da_cons de_int da_nil)) rfl) de_int) (dss_one (ds_ret (de_sub1 de_str (de_call (ok__law_next T) (hr.mono (by decide)) (by rfl) T.g__law_next T.F__law_next.kp T.b__law_next (da_cons (de_var 0 (pv 0)) (da_cons de_int da_nil)) rfl)))) dss_nil)
  (dss_one (ds_ret (de_sub1 de_str (de_call (ok__law_next T) (hr.mono (by decide)) (by rfl) T.g__law_next T.F__law_next.kp T.b__law_next (da_cons (de_var 0 (pv 0)) (da_cons de_int da_nil)) rfl))))))
theorem ok__law_deed (T : Tx w K mg fa fd) : FnOk P w K mg base CX0 4 (fa 20) (fd 20) ["_law_state_here"] (spF K 1 f__law_deed) := fn_sound T.F__law_deed sc__law_deed (by decide) fun cdv A outer s H E hr => (by
  unfold b__law_deed 
  exact (dss_cons (ds_asg (i := 1) sc__law_deed.nd rfl (Or.inl rfl) (de_call (ok__law_next T) (hr.mono (by decide)) (by rfl) T.g__law_next T.F__law_next.kp T.b__law_next (da_cons (de_var 0 (pv 0)) (da_cons de_int da_nil)) rfl))
  (dss_cons (ds_asg (i := 2) sc__law_deed.nd rfl (Or.inl rfl) (de_call (ok__law_letter T) (hr.mono (by decide)) (by rfl) T.g__law_letter T.F__law_letter.kp T.b__law_letter (da_cons (de_var 0 (pv 0)) da_nil) rfl))
  (dss_cons (ds_if (dt_eq hr (de_var 1 (pv 1)) de_int) (dss_one (ds_ret (de_tup (da_cons de_str (da_cons (de_var 2 (pv 2)) da_nil))))) dss_nil)
  (dss_one (ds_ret (de_tup (da_cons (de_sub1 (de_lst (da_cons de_str (da_cons de_str da_nil))) (de_sub (de_var 1 (pv 1)) de_int)) (da_cons (de_var 2 (pv 2)) (da_cons (de_call (ok__law_value T) (hr.mono (by decide)) (by rfl) T.g__law_value T.F__law_value.kp T.b__law_value (da_cons (de_var 0 (pv 0)) da_nil) rfl) da_nil))))))))))
theorem ok__law_small (T : Tx w K mg fa fd) : FnOk P w K mg base CX0 3 (fa 21) (fd 21) ["_law_state_here", "_law_most"] (spF K 2 f__law_small) := fn_sound T.F__law_small sc__law_small (by decide) fun cdv A outer s H E hr => (by
  unfold b__law_small 
  exact (dss_cons (ds_if (dt_eq hr (de_call (ok__law_next T) (hr.mono (by decide)) (by rfl) T.g__law_next T.F__law_next.kp T.b__law_next (da_cons (de_var 0 (pv 0)) (da_cons de_int da_nil)) rfl) de_int) (dss_one (ds_ret (de_call (ok__law_wide T) (hr.mono (by decide)) (by rfl) T.g__law_wide T.F__law_wide.kp T.b__law_wide (da_cons (de_var 0 (pv 0)) da_nil) rfl))) dss_nil)
  (dss_one (ds_ret (de_call (ok__law_next T) (hr.mono (by decide)) (by rfl) T.g__law_next T.F__law_next.kp T.b__law_next (da_cons (de_var 0 (pv 0)) (da_cons (de_var 1 (pv 1)) da_nil)) rfl)))))
theorem ok__law_set (T : Tx w K mg fa fd) : FnOk P w K mg base CX0 2 (fa 22) (fd 22) ["_law_state_here"] (spF K 1 f__law_set) := fn_sound T.F__law_set sc__law_set (by decide) fun cdv A outer s H E hr => (by
  unfold b__law_set ce__law_set_1 ct__law_set_1 cg__law_set_1
  exact (dss_cons (ds_asg (i := 1) sc__law_set.nd rfl (Or.inr rfl) (de_add de_int (de_call (ok__law_next T) (hr.mono (by decide)) (by rfl) T.g__law_next T.F__law_next.kp T.b__law_next (da_cons (de_var 0 (pv 0)) (da_cons de_int da_nil)) rfl)))
  (dss_one (ds_ret (de_ty call_tupP pn_tupOf (by rfl) T.z_tuple boot_tuple' (da_cons (de_lc (own := [("_law_house", 2)]) rfl sc__law_set.nd (di_rng1 (by rfl) T.z_range (da_cons de_int da_nil)) (blkOk_by (own := [("_law_house", 2)]) (by rfl)) (by decide) (fun _ _ _ _ _ => (dg_name (i := 2) sc__law_set.nd rfl (Or.inl rfl))) (fun _ _ _ _ _ => (dts_one (dt_eq hr (de_band (de_shr (de_var 1 (pv 1)) (de_var 2 (pv 2))) de_int) de_int))) (fun _ _ _ _ _ => (de_var 2 (pv 2)))) da_nil))))))
theorem ok__law_group (T : Tx w K mg fa fd) : FnOk P w K mg base CX0 3 (fa 23) (fd 23) ["_law_state_here"] (spF K 1 f__law_group) := fn_sound T.F__law_group sc__law_group (by decide) fun cdv A outer s H E hr => (by
  unfold b__law_group 
  exact (dss_cons (ds_if (dt_eq hr (de_call (ok__law_next T) (hr.mono (by decide)) (by rfl) T.g__law_next T.F__law_next.kp T.b__law_next (da_cons (de_var 0 (pv 0)) (da_cons de_int da_nil)) rfl) de_int) (dss_one (ds_ret (de_tup (da_cons (de_call (ok__law_set T) (hr.mono (by decide)) (by rfl) T.g__law_set T.F__law_set.kp T.b__law_set (da_cons (de_var 0 (pv 0)) da_nil) rfl) (da_cons (de_call (ok__law_set T) (hr.mono (by decide)) (by rfl) T.g__law_set T.F__law_set.kp T.b__law_set (da_cons (de_var 0 (pv 0)) da_nil) rfl) da_nil))))) dss_nil)
  (dss_one (ds_ret (de_tup (da_cons (de_call (ok__law_set T) (hr.mono (by decide)) (by rfl) T.g__law_set T.F__law_set.kp T.b__law_set (da_cons (de_var 0 (pv 0)) da_nil) rfl) da_nil))))))
theorem ok__law_row (T : Tx w K mg fa fd) : FnOk P w K mg base CX0 5 (fa 24) (fd 24) ["_law_state_here", "_law_sets"] (spF K 2 f__law_row) := fn_sound T.F__law_row sc__law_row (by decide) fun cdv A outer s H E hr => (by
  unfold b__law_row 
  exact (dss_cons (ds_if (dt_eq hr (de_call (ok__law_next T) (hr.mono (by decide)) (by rfl) T.g__law_next T.F__law_next.kp T.b__law_next (da_cons (de_var 0 (pv 0)) (da_cons de_int da_nil)) rfl) de_int) (dss_cons (ds_if (dt_eq hr (de_var 1 (pv 1)) de_int) (dss_one (ds_ret (de_tup (da_cons de_str da_nil)))) dss_nil)
  (dss_one (ds_ret (de_tup (da_cons de_str (da_cons (de_call (ok__law_set T) (hr.mono (by decide)) (by rfl) T.g__law_set T.F__law_set.kp T.b__law_set (da_cons (de_var 0 (pv 0)) da_nil) rfl) da_nil)))))) dss_nil)
  (dss_one (ds_ret (de_tup (da_cons de_str (da_cons (de_call (ok__law_small T) (hr.mono (by decide)) (by rfl) T.g__law_small T.F__law_small.kp T.b__law_small (da_cons (de_var 0 (pv 0)) (da_cons de_int da_nil)) rfl) (da_cons (de_add de_int (de_call (ok__law_small T) (hr.mono (by decide)) (by rfl) T.g__law_small T.F__law_small.kp T.b__law_small (da_cons (de_var 0 (pv 0)) (da_cons de_int da_nil)) rfl)) (da_cons (de_call (ok__law_deed T) (hr.mono (by decide)) (by rfl) T.g__law_deed T.F__law_deed.kp T.b__law_deed (da_cons (de_var 0 (pv 0)) da_nil) rfl) da_nil)))))))))
theorem ok__law_one_done (T : Tx w K mg fa fd) : FnOk P w K mg base CX0 1 (fa 25) (fd 25) ["_law_values", "_law_last", "_law_row_here"] (spF K 3 f__law_one_done) := fn_sound T.F__law_one_done sc__law_one_done (by decide) fun cdv A outer s H E hr => (by
  unfold b__law_one_done 
  exact (dss_cons (ds_if (dt_w (dw_or (dt_ne hr (de_sub2 hr (de_var 2 (pv 2)) de_int) de_str) (dw_or1 (dt_w (dw_and (dt_in2 hr (de_sub2 hr (de_var 2 (pv 2)) de_int) (de_var 1 (pv 1))) (dw_and1 (dt_ge hr (de_sub2 hr (de_sub2 hr (de_var 1 (pv 1)) (de_sub2 hr (de_var 2 (pv 2)) de_int)) de_int) (de_sub2 hr (de_var 2 (pv 2)) de_int)))))))) (dss_one ds_retN) dss_nil)
  (dss_cons (ds_asg (i := 3) sc__law_one_done.nd rfl (Or.inl rfl) (de_sub2 hr (de_sub2 hr (de_var 2 (pv 2)) de_int) de_int))
  (dss_cons (ds_asg (i := 4) sc__law_one_done.nd rfl (Or.inl rfl) (de_get2 hr (de_var 0 (pv 0)) (de_var 3 (pv 3)) de_int))
  (dss_cons (ds_if (dt_eq hr (de_sub2 hr (de_sub2 hr (de_var 2 (pv 2)) de_int) de_int) de_str) (dss_one (ds_setD hr (pv 0) (de_var 3 (pv 3)) (de_sub2 hr (de_sub2 hr (de_var 2 (pv 2)) de_int) de_int))) dss_nil)
  (dss_cons (ds_kill [3] (ds_if (dt_eq hr (de_sub2 hr (de_sub2 hr (de_var 2 (pv 2)) de_int) de_int) de_str) (dss_cons (ds_asg (i := 4) sc__law_one_done.nd rfl (Or.inl rfl) (de_add (de_var 4 (pv 4)) (de_sub2 hr (de_sub2 hr (de_var 2 (pv 2)) de_int) de_int)))
  (dss_one (ds_kill [3] (ds_setD hr (pv 0) (de_var 3 (pv 3)) (de_var 4 (pv 4)))))) dss_nil))
  (dss_one (ds_kill [4] (ds_setD hr (pv 1) (de_sub2 hr (de_var 2 (pv 2)) de_int) (de_tup (da_cons (de_sub2 hr (de_var 2 (pv 2)) de_int) (da_cons (de_var 4 (pv 4)) da_nil))))))))))))
theorem ok__law_told (T : Tx w K mg fa fd) : FnOk P w K mg base CX0 1 (fa 26) (fd 26) ["_law_values", "_law_last"] (spF K 2 f__law_told) := fn_sound T.F__law_told sc__law_told (by decide) fun cdv A outer s H E hr => (by
  unfold b__law_told ce__law_told_1 cg__law_told_1
  exact (dss_one (ds_ret (de_tup (da_cons (de_ty call_tupP pn_tupOf (by rfl) T.z_tuple boot_tuple' (da_cons (de_sortItems hr rfl (by rfl) T.z_sorted (de_var 0 (pv 0))) da_nil)) (da_cons (de_ty call_tupP pn_tupOf (by rfl) T.z_tuple boot_tuple' (da_cons (de_blt (cr_sortD hr.units) pn_sorted (by rfl) T.z_sorted boot_sorted' (da_cons (de_lc (own := [("_law_client", 2)]) rfl sc__law_told.nd (di_seq (de_ty (call_list_of.or (call_listD rfl)) pn_lstOf2 (by rfl) T.z_list boot_list' (da_cons (de_var 1 (pv 1)) da_nil))) (blkOk_by (own := [("_law_client", 2)]) (by rfl)) (by decide) (fun _ _ _ _ _ => (dg_name (i := 2) sc__law_told.nd rfl (Or.inl rfl))) (fun _ _ _ _ _ => dts_nil) (fun _ _ _ _ _ => (de_tup (da_cons (de_var 2 (pv 2)) (da_cons (de_sub2 hr (de_sub2 hr (de_var 1 (pv 1)) (de_var 2 (pv 2))) de_int) (da_cons (de_sub2 hr (de_sub2 hr (de_var 1 (pv 1)) (de_var 2 (pv 2))) de_int) da_nil)))))) da_nil)) da_nil)) da_nil))))))
theorem ok__law_parts (T : Tx w K mg fa fd) : FnOk P w K mg base CX0 1 (fa 27) (fd 27) ["_law_store"] (spFD K 1 f__law_parts) := fn_soundD T.F__law_parts sc__law_parts (by decide) fun cdv A outer s H E hr => (by
  unfold b__law_parts ce__law_parts_1 cg__law_parts_1
  exact (dss_one (ds_retT (da_cons (de_ty (CallR.or (call_dicT rfl) (CallR.or (call_dicN rfl hr.units) (call_dictP rfl))) pn_dicT (by rfl) T.z_dict boot_dict' (da_cons (de_sub1 (de_var 0 (pv 0)) de_int) da_nil)) (da_cons (de_ty (call_dictP rfl) pn_dicOf (by rfl) T.z_dict boot_dict' (da_cons (de_lc (own := [("_law_client", 1), ("_law_number", 2), ("_law_answer", 3)]) rfl sc__law_parts.nd (di_seq (de_sub1 (de_var 0 (pv 0)) de_int)) (blkOk_by (own := [("_law_client", 1), ("_law_number", 2), ("_law_answer", 3)]) (by rfl)) (by decide) (fun _ _ _ _ _ => (dg_tup rfl (dgs_cons (dg_name (i := 1) sc__law_parts.nd rfl (Or.inl rfl)) (dgs_cons (dg_name (i := 2) sc__law_parts.nd rfl (Or.inl rfl)) (dgs_cons (dg_name (i := 3) sc__law_parts.nd rfl (Or.inl rfl)) dgs_nil))))) (fun _ _ _ _ _ => dts_nil) (fun _ _ _ _ _ => (de_tup (da_cons (de_var 1 (pv 1)) (da_cons (de_tup (da_cons (de_var 2 (pv 2)) (da_cons (de_var 3 (pv 3)) da_nil))) da_nil))))) da_nil)) da_nil)))))
theorem ok__law_behind (T : Tx w K mg fa fd) : FnOk P w K mg base CX0 2 (fa 28) (fd 28) ["_law_store", "_law_rows_here"] (spF K 2 f__law_behind) := fn_sound T.F__law_behind sc__law_behind (by decide) fun cdv A outer s H E hr => (by
  unfold b__law_behind l__law_behind_1 g__law_behind_1
  exact (dss_cons (ds_unpC rfl (dun_cons (i := 3) sc__law_behind.nd rfl (Or.inl rfl) (dun_cons (i := 4) sc__law_behind.nd rfl (Or.inl rfl) dun_nil)) (dc_call (ok__law_parts T) (hr.mono (by decide)) (by rfl) T.g__law_parts T.F__law_parts.kp T.b__law_parts (da_cons (de_var 0 (pv 0)) da_nil) rfl))
  (dss_cons (ds_kill [2] (ds_for flat0 PassesOwn.never rfl (di_seq (de_var 1 (pv 1))) (dg_name (i := 2) sc__law_behind.nd rfl (Or.inl rfl)) (dss_kill [2] (dss_one (ds_kill [2] (ds_expr (de_call (ok__law_one_done T) (hr.mono (by decide)) (by rfl) T.g__law_one_done T.F__law_one_done.kp T.b__law_one_done (da_cons (de_var 3 (pv 3)) (da_cons (de_var 4 (pv 4)) (da_cons (de_var 2 (pv 2)) da_nil))) rfl)))))))
  (dss_one (ds_ret (de_call (ok__law_told T) (hr.mono (by decide)) (by rfl) T.g__law_told T.F__law_told.kp T.b__law_told (da_cons (de_var 3 (pv 3)) (da_cons (de_var 4 (pv 4)) da_nil)) rfl))))))
theorem ok__law_led (T : Tx w K mg fa fd) : FnOk P w K mg base CX0 1 (fa 29) (fd 29) ["_law_group_here", "_law_rows_here"] (spF K 2 f__law_led) := fn_sound T.F__law_led sc__law_led (by decide) fun cdv A outer s H E hr => (by
  unfold b__law_led l__law_led_1 g__law_led_1
  exact (dss_cons (ds_kill [2] (ds_for flat0 PassesOwn.never rfl (di_seq (de_var 1 (pv 1))) (dg_name (i := 2) sc__law_led.nd rfl (Or.inl rfl)) (dss_kill [2] (dss_cons (ds_if (dt_eq hr (de_sub1 (de_var 2 (pv 2)) de_int) de_str) (dss_one (ds_asg (i := 0) sc__law_led.nd rfl (Or.inl rfl) (de_tup (da_cons (de_sub1 (de_var 0 (pv 0)) de_int) (da_cons (de_sub1 (de_var 2 (pv 2)) de_int) da_nil))))) dss_nil)
  (dss_one (ds_kill [2] (ds_if (dt_eq hr (de_sub1 (de_var 2 (pv 2)) de_int) de_str) (dss_one (ds_asg (i := 0) sc__law_led.nd rfl (Or.inl rfl) (de_slice (de_var 0 (pv 0)) (do_some de_int) do_none))) dss_nil)))))))
  (dss_one (ds_ret (de_var 0 (pv 0))))))
theorem ok__law_rows (T : Tx w K mg fa fd) : FnOk P w K mg base CX0 6 (fa 30) (fd 30) ["_law_group_here", "_law_cells", "_law_k"] (spF K 3 f__law_rows) := fn_sound T.F__law_rows sc__law_rows (by decide) fun cdv A outer s H E hr => (by
  unfold b__law_rows l__law_rows_1 g__law_rows_1
  exact (dss_cons (ds_asg (i := 3) sc__law_rows.nd rfl (Or.inl rfl) (de_blt call_len pn_len (by rfl) T.z_len boot_len' (da_cons (de_var 0 (pv 0)) da_nil)))
  (dss_cons (ds_asg (i := 4) sc__law_rows.nd rfl (Or.inl rfl) (de_lst da_nil))
  (dss_cons (ds_kill [3, 5, 6, 7] (ds_for flat0 PassesOwn.never rfl (di_enum (by rfl) T.z_enumerate (de_var 1 (pv 1))) (dg_tup rfl (dgs_cons (dg_name (i := 5) sc__law_rows.nd rfl (Or.inl rfl)) (dgs_cons (dg_name (i := 6) sc__law_rows.nd rfl (Or.inl rfl)) dgs_nil))) (dss_kill [5, 6, 7] (dss_cons (ds_kill [5, 6] (ds_asg (i := 7) sc__law_rows.nd rfl (Or.inl rfl) (de_call (ok__law_row T) (hr.mono (by decide)) (by rfl) T.g__law_row T.F__law_row.kp T.b__law_row (da_cons (de_call (ok__law_state T) (hr.mono (by decide)) (by rfl) T.g__law_state T.F__law_state.kp T.b__law_state (da_cons (de_var 6 (pv 6)) (da_cons (de_add (de_var 2 (pv 2)) (de_var 5 (pv 5))) da_nil)) rfl) (da_cons (de_var 3 (pv 3)) da_nil)) rfl)))
  (dss_cons (ds_if (dt_ne hr (de_sub1 (de_var 7 (pv 7)) de_int) de_str) (dss_one (ds_asg (i := 3) sc__law_rows.nd rfl (Or.inl rfl) (de_sub de_int (de_var 3 (pv 3))))) dss_nil)
  (dss_one (ds_kill [7] (ds_expr (de_mt PySem.F.slot_list_append PySem.F.type_list_append mt_append mt_app (pv 4) (da_cons (de_var 7 (pv 7)) da_nil))))))))))
  (dss_one (ds_ret (de_ty call_tupP pn_tupOf (by rfl) T.z_tuple boot_tuple' (da_cons (de_var 4 (pv 4)) da_nil))))))))
theorem ok__law_agrees (T : Tx w K mg fa fd) : FnOk P w K mg base CX0 3 (fa 31) (fd 31) ["_law_log", "_law_group_here", "_law_rows_here"] (spF K 3 f__law_agrees) := fn_sound T.F__law_agrees sc__law_agrees (by decide) fun cdv A outer s H E hr => (by
  unfold b__law_agrees 
  exact (dss_cons (ds_asgT (dg_tup rfl (dgs_cons (dg_name (i := 3) sc__law_agrees.nd rfl (Or.inl rfl)) (dgs_cons (dg_name (i := 4) sc__law_agrees.nd rfl (Or.inl rfl)) (dgs_cons (dg_name (i := 5) sc__law_agrees.nd rfl (Or.inl rfl)) (dgs_cons (dg_name (i := 6) sc__law_agrees.nd rfl (Or.inl rfl)) dgs_nil))))) (de_var 0 (pv 0)) (noexc := (gT_noexc (gCn_noexc (fun _ _ _ _ => gN_noexc) (gCn_noexc (fun _ _ _ _ => gN_noexc) (gCn_noexc (fun _ _ _ _ => gN_noexc) (gCn_noexc (fun _ _ _ _ => gN_noexc) gNl_noexc)))))))
  (dss_cons (ds_kill [6] (ds_if (dt_w (dw_or (dt_lt hr (de_blt call_len pn_len (by rfl) T.z_len boot_len' (da_cons (de_var 2 (pv 2)) da_nil)) (de_add (de_var 3 (pv 3)) (de_blt call_len pn_len (by rfl) T.z_len boot_len' (da_cons (de_var 6 (pv 6)) da_nil)))) (dw_or1 (dt_ne hr (de_slice (de_var 2 (pv 2)) (do_some (de_var 3 (pv 3))) (do_some (de_add (de_var 3 (pv 3)) (de_blt call_len pn_len (by rfl) T.z_len boot_len' (da_cons (de_var 6 (pv 6)) da_nil))))) (de_var 6 (pv 6)))))) (dss_one (ds_ret de_bool)) dss_nil))
  (dss_one (ds_ret (de_and (de_eq hr (de_var 4 (pv 4)) (de_call (ok__law_behind T) (hr.mono (by decide)) (by rfl) T.g__law_behind T.F__law_behind.kp T.b__law_behind (da_cons (de_tup (da_cons (de_tup da_nil) (da_cons (de_tup da_nil) da_nil))) (da_cons (de_slice (de_var 2 (pv 2)) do_none (do_some (de_var 3 (pv 3)))) da_nil)) rfl)) (de_one (de_eq hr (de_var 5 (pv 5)) (de_call (ok__law_led T) (hr.mono (by decide)) (by rfl) T.g__law_led T.F__law_led.kp T.b__law_led (da_cons (de_var 1 (pv 1)) (da_cons (de_slice (de_var 2 (pv 2)) do_none (do_some (de_var 3 (pv 3)))) da_nil)) rfl)))))))))
theorem ok__law_other_row (T : Tx w K mg fa fd) : FnOk P w K mg base CX0 5 (fa 32) (fd 32) ["_law_state_here", "_law_row_here"] (spF K 2 f__law_other_row) := fn_sound T.F__law_other_row sc__law_other_row (by decide) fun cdv A outer s H E hr => (by
  unfold b__law_other_row 
  exact (dss_cons (ds_if (dt_eq hr (de_var 1 (pv 1)) (de_tup (da_cons de_str da_nil))) (dss_one (ds_ret (de_var 1 (pv 1)))) dss_nil)
  (dss_cons (ds_if (dt_eq hr (de_sub1 (de_var 1 (pv 1)) de_int) de_str) (dss_one (ds_ret (de_tup (da_cons de_str (da_cons (de_call (ok__law_set T) (hr.mono (by decide)) (by rfl) T.g__law_set T.F__law_set.kp T.b__law_set (da_cons (de_var 0 (pv 0)) da_nil) rfl) da_nil))))) dss_nil)
  (dss_cons (ds_asg (i := 2) sc__law_other_row.nd rfl (Or.inl rfl) (de_call (ok__law_next T) (hr.mono (by decide)) (by rfl) T.g__law_next T.F__law_next.kp T.b__law_next (da_cons (de_var 0 (pv 0)) (da_cons de_int da_nil)) rfl))
  (dss_cons (ds_if (dt_eq hr (de_var 2 (pv 2)) de_int) (dss_one (ds_ret (de_tup (da_cons de_str (da_cons (de_add (de_sub1 (de_var 1 (pv 1)) de_int) de_int) (da_cons (de_sub1 (de_var 1 (pv 1)) de_int) (da_cons (de_sub1 (de_var 1 (pv 1)) de_int) da_nil))))))) dss_nil)
  (dss_one (ds_ret (de_tup (da_cons de_str (da_cons (de_sub1 (de_var 1 (pv 1)) de_int) (da_cons (de_sub (de_add (de_sub1 (de_var 1 (pv 1)) de_int) (de_var 2 (pv 2))) de_int) (da_cons (de_call (ok__law_deed T) (hr.mono (by decide)) (by rfl) T.g__law_deed T.F__law_deed.kp T.b__law_deed (da_cons (de_var 0 (pv 0)) da_nil) rfl) da_nil))))))))))))
theorem ok__law_with_other (T : Tx w K mg fa fd) : FnOk P w K mg base CX0 6 (fa 33) (fd 33) ["_law_state_here", "_law_rows_here"] (spF K 2 f__law_with_other) := fn_sound T.F__law_with_other sc__law_with_other (by decide) fun cdv A outer s H E hr => (by
  unfold b__law_with_other 
  exact (dss_cons (ds_if (dt_eq hr (de_var 1 (pv 1)) (de_tup da_nil)) (dss_one (ds_ret (de_var 1 (pv 1)))) dss_nil)
  (dss_cons (ds_asg (i := 2) sc__law_with_other.nd rfl (Or.inl rfl) (de_call (ok__law_next T) (hr.mono (by decide)) (by rfl) T.g__law_next T.F__law_next.kp T.b__law_next (da_cons (de_var 0 (pv 0)) (da_cons (de_blt call_len pn_len (by rfl) T.z_len boot_len' (da_cons (de_var 1 (pv 1)) da_nil)) da_nil)) rfl))
  (dss_one (ds_ret (de_add (de_add (de_slice (de_var 1 (pv 1)) do_none (do_some (de_var 2 (pv 2)))) (de_tup (da_cons (de_call (ok__law_other_row T) (hr.mono (by decide)) (by rfl) T.g__law_other_row T.F__law_other_row.kp T.b__law_other_row (da_cons (de_var 0 (pv 0)) (da_cons (de_sub1 (de_var 1 (pv 1)) (de_var 2 (pv 2))) da_nil)) rfl) da_nil))) (de_slice (de_var 1 (pv 1)) (do_some (de_add (de_var 2 (pv 2)) de_int)) do_none)))))))
theorem ok__law_other_store (T : Tx w K mg fa fd) : FnOk P w K mg base CX0 2 (fa 34) (fd 34) ["_law_state_here", "_law_store"] (spF K 2 f__law_other_store) := fn_sound T.F__law_other_store sc__law_other_store (by decide) fun cdv A outer s H E hr => (by
  unfold b__law_other_store 
  exact (dss_cons (ds_asgT (dg_tup rfl (dgs_cons (dg_name (i := 3) sc__law_other_store.nd rfl (Or.inl rfl)) (dgs_cons (dg_name (i := 4) sc__law_other_store.nd rfl (Or.inl rfl)) dgs_nil))) (de_var 1 (pv 1)) (noexc := (gT_noexc (gCn_noexc (fun _ _ _ _ => gN_noexc) (gCn_noexc (fun _ _ _ _ => gN_noexc) gNl_noexc)))))
  (dss_cons (ds_kill [2] (ds_if (dt_w (dw_and (dt_ne hr (de_var 3 (pv 3)) (de_tup da_nil)) (dw_and1 (dt_eq hr (de_call (ok__law_next T) (hr.mono (by decide)) (by rfl) T.g__law_next T.F__law_next.kp T.b__law_next (da_cons (de_var 0 (pv 0)) (da_cons de_int da_nil)) rfl) de_int)))) (dss_cons (ds_asg (i := 2) sc__law_other_store.nd rfl (Or.inl rfl) (de_call (ok__law_next T) (hr.mono (by decide)) (by rfl) T.g__law_next T.F__law_next.kp T.b__law_next (da_cons (de_var 0 (pv 0)) (da_cons (de_blt call_len pn_len (by rfl) T.z_len boot_len' (da_cons (de_var 3 (pv 3)) da_nil)) da_nil)) rfl))
  (dss_one (ds_ret (de_tup (da_cons (de_add (de_add (de_slice (de_var 3 (pv 3)) do_none (do_some (de_var 2 (pv 2)))) (de_tup (da_cons (de_tup (da_cons (de_sub1 (de_sub1 (de_var 3 (pv 3)) (de_var 2 (pv 2))) de_int) (da_cons (de_add (de_sub1 (de_sub1 (de_var 3 (pv 3)) (de_var 2 (pv 2))) de_int) de_int) da_nil))) da_nil))) (de_slice (de_var 3 (pv 3)) (do_some (de_add (de_var 2 (pv 2)) de_int)) do_none)) (da_cons (de_var 4 (pv 4)) da_nil)))))) dss_nil))
  (dss_cons (ds_if (dt_eq hr (de_var 4 (pv 4)) (de_tup da_nil)) (dss_one (ds_ret (de_tup (da_cons (de_var 3 (pv 3)) (da_cons (de_tup (da_cons (de_tup (da_cons de_int (da_cons de_int (da_cons de_int da_nil)))) da_nil)) da_nil))))) dss_nil)
  (dss_cons (ds_asg (i := 2) sc__law_other_store.nd rfl (Or.inl rfl) (de_call (ok__law_next T) (hr.mono (by decide)) (by rfl) T.g__law_next T.F__law_next.kp T.b__law_next (da_cons (de_var 0 (pv 0)) (da_cons (de_blt call_len pn_len (by rfl) T.z_len boot_len' (da_cons (de_var 4 (pv 4)) da_nil)) da_nil)) rfl))
  (dss_cons (ds_asgT (dg_tup rfl (dgs_cons (dg_name (i := 5) sc__law_other_store.nd rfl (Or.inl rfl)) (dgs_cons (dg_name (i := 6) sc__law_other_store.nd rfl (Or.inl rfl)) (dgs_cons (dg_name (i := 7) sc__law_other_store.nd rfl (Or.inl rfl)) dgs_nil)))) (de_sub1 (de_var 4 (pv 4)) (de_var 2 (pv 2))) (noexc := (gT_noexc (gCn_noexc (fun _ _ _ _ => gN_noexc) (gCn_noexc (fun _ _ _ _ => gN_noexc) (gCn_noexc (fun _ _ _ _ => gN_noexc) gNl_noexc))))))
  (dss_one (ds_ret (de_tup (da_cons (de_var 3 (pv 3)) (da_cons (de_add (de_add (de_slice (de_var 4 (pv 4)) do_none (do_some (de_var 2 (pv 2)))) (de_tup (da_cons (de_tup (da_cons (de_var 5 (pv 5)) (da_cons (de_add (de_var 6 (pv 6)) (de_call (ok__law_next T) (hr.mono (by decide)) (by rfl) T.g__law_next T.F__law_next.kp T.b__law_next (da_cons (de_var 0 (pv 0)) (da_cons de_int da_nil)) rfl)) (da_cons (de_sub (de_var 7 (pv 7)) (de_call (ok__law_next T) (hr.mono (by decide)) (by rfl) T.g__law_next T.F__law_next.kp T.b__law_next (da_cons (de_var 0 (pv 0)) (da_cons de_int da_nil)) rfl)) da_nil)))) da_nil))) (de_slice (de_var 4 (pv 4)) (do_some (de_add (de_var 2 (pv 2)) de_int)) do_none)) da_nil)))))))))))
theorem ok__law_other_log (T : Tx w K mg fa fd) : FnOk P w K mg base CX0 7 (fa 35) (fd 35) ["_law_state_here", "_law_log"] (spF K 2 f__law_other_log) := fn_sound T.F__law_other_log sc__law_other_log (by decide) fun cdv A outer s H E hr => (by
  unfold b__law_other_log ce__law_other_log_1 cg__law_other_log_1
  exact (dss_cons (ds_asgT (dg_tup rfl (dgs_cons (dg_name (i := 3) sc__law_other_log.nd rfl (Or.inl rfl)) (dgs_cons (dg_name (i := 4) sc__law_other_log.nd rfl (Or.inl rfl)) (dgs_cons (dg_name (i := 5) sc__law_other_log.nd rfl (Or.inl rfl)) (dgs_cons (dg_name (i := 6) sc__law_other_log.nd rfl (Or.inl rfl)) dgs_nil))))) (de_var 1 (pv 1)) (noexc := (gT_noexc (gCn_noexc (fun _ _ _ _ => gN_noexc) (gCn_noexc (fun _ _ _ _ => gN_noexc) (gCn_noexc (fun _ _ _ _ => gN_noexc) (gCn_noexc (fun _ _ _ _ => gN_noexc) gNl_noexc)))))))
  (dss_cons (ds_asg (i := 2) sc__law_other_log.nd rfl (Or.inl rfl) (de_call (ok__law_next T) (hr.mono (by decide)) (by rfl) T.g__law_next T.F__law_next.kp T.b__law_next (da_cons (de_var 0 (pv 0)) (da_cons de_int da_nil)) rfl))
  (dss_cons (ds_if (dt_lt hr (de_var 2 (pv 2)) de_int) (dss_one (ds_ret (de_tup (da_cons (de_var 3 (pv 3)) (da_cons (de_var 4 (pv 4)) (da_cons (de_var 5 (pv 5)) (da_cons (de_call (ok__law_with_other T) (hr.mono (by decide)) (by rfl) T.g__law_with_other T.F__law_with_other.kp T.b__law_with_other (da_cons (de_var 0 (pv 0)) (da_cons (de_var 6 (pv 6)) da_nil)) rfl) da_nil))))))) dss_nil)
  (dss_cons (ds_if (dt_eq hr (de_var 2 (pv 2)) de_int) (dss_one (ds_ret (de_tup (da_cons (de_var 3 (pv 3)) (da_cons (de_call (ok__law_other_store T) (hr.mono (by decide)) (by rfl) T.g__law_other_store T.F__law_other_store.kp T.b__law_other_store (da_cons (de_var 0 (pv 0)) (da_cons (de_var 4 (pv 4)) da_nil)) rfl) (da_cons (de_var 5 (pv 5)) (da_cons (de_var 6 (pv 6)) da_nil))))))) dss_nil)
  (dss_cons (ds_if (dt_eq hr (de_var 2 (pv 2)) de_int) (dss_one (ds_ret (de_tup (da_cons (de_var 3 (pv 3)) (da_cons (de_var 4 (pv 4)) (da_cons (de_ty call_tupP pn_tupOf (by rfl) T.z_tuple boot_tuple' (da_cons (de_lc (own := [("_law_one", 7)]) rfl sc__law_other_log.nd (di_seq (de_var 5 (pv 5))) (blkOk_by (own := [("_law_one", 7)]) (by rfl)) (by decide) (fun _ _ _ _ _ => (dg_name (i := 7) sc__law_other_log.nd rfl (Or.inl rfl))) (fun _ _ _ _ _ => dts_nil) (fun _ _ _ _ _ => (de_call (ok__law_set T) (hr.mono (by decide)) (by rfl) T.g__law_set T.F__law_set.kp T.b__law_set (da_cons (de_var 0 (pv 0)) da_nil) rfl))) da_nil)) (da_cons (de_var 6 (pv 6)) da_nil))))))) dss_nil)
  (dss_one (ds_ret (de_tup (da_cons (de_blt ((call_max2 rfl).or (cr_maxD rfl hr.units)) (pn_best maxD_mem) (by rfl) T.z_max boot_max' (da_cons de_int (da_cons (de_sub (de_add (de_var 3 (pv 3)) (de_mul de_int (de_sub (de_var 2 (pv 2)) de_int))) de_int) da_nil))) (da_cons (de_var 4 (pv 4)) (da_cons (de_var 5 (pv 5)) (da_cons (de_var 6 (pv 6)) da_nil)))))))))))))
theorem ok_law (T : Tx w K mg fa fd) : FnOk P w K mg base CX0 8 (fa 36) (fd 36) ["_law_script"] (spF K 1 f_law) := fn_sound T.F_law sc_law (by decide) fun cdv A outer s H E hr => (by
  unfold b_law l_law_4 g_law_4 l_law_3 g_law_3 l_law_2 g_law_2 ce_law_1 cg_law_1 l_law_1 g_law_1
  exact (dss_cons (ds_asg (i := 1) sc_law.nd rfl (Or.inr rfl) (de_call (ok__law_state T) (hr.mono (by decide)) (by rfl) T.g__law_state T.F__law_state.kp T.b__law_state (da_cons (de_call (ok__law_cell_at T) (hr.mono (by decide)) (by rfl) T.g__law_cell_at T.F__law_cell_at.kp T.b__law_cell_at (da_cons (de_var 0 (pv 0)) (da_cons de_int da_nil)) rfl) (da_cons de_int da_nil)) rfl))
  (dss_cons (ds_kill [1] (ds_asg (i := 2) sc_law.nd rfl (Or.inl rfl) (de_call (ok__law_group T) (hr.mono (by decide)) (by rfl) T.g__law_group T.F__law_group.kp T.b__law_group (da_cons (de_var 1 (pv 1)) da_nil) rfl)))
  (dss_cons (ds_asg (i := 3) sc_law.nd rfl (Or.inl rfl) (de_call (ok__law_rows T) (hr.mono (by decide)) (by rfl) T.g__law_rows T.F__law_rows.kp T.b__law_rows (da_cons (de_var 2 (pv 2)) (da_cons (de_slice (de_var 0 (pv 0)) (do_some de_int) (do_some de_int)) (da_cons de_int da_nil))) rfl))
  (dss_cons (ds_asg (i := 4) sc_law.nd rfl (Or.inl rfl) (de_call (ok_first_log T) (hr.mono (by decide)) (by rfl) T.g_first_log T.F_first_log.kp T.b_first_log (da_cons (de_var 2 (pv 2)) da_nil) rfl))
  (dss_cons (ds_kill [5] (ds_for flat0 PassesOwn.never rfl (di_seq (de_var 3 (pv 3))) (dg_name (i := 5) sc_law.nd rfl (Or.inl rfl)) (dss_kill [5] (dss_one (ds_kill [5] (ds_asg (i := 4) sc_law.nd rfl (Or.inl rfl) (de_call (ok_put T) (hr.mono (by decide)) (by rfl) T.g_put T.F_put.kp T.b_put (da_cons (de_var 4 (pv 4)) (da_cons (de_var 5 (pv 5)) da_nil)) rfl)))))))
  (dss_cons (ds_asg (i := 1) sc_law.nd rfl (Or.inr rfl) (de_call (ok__law_state T) (hr.mono (by decide)) (by rfl) T.g__law_state T.F__law_state.kp T.b__law_state (da_cons (de_call (ok__law_cell_at T) (hr.mono (by decide)) (by rfl) T.g__law_cell_at T.F__law_cell_at.kp T.b__law_cell_at (da_cons (de_var 0 (pv 0)) (da_cons de_int da_nil)) rfl) (da_cons de_int da_nil)) rfl))
  (dss_cons (ds_kill [1, 2, 3, 4, 6, 7, 8, 9, 10, 11, 12, 13, 14, 15] (ds_for flat0 PassesOwn.never rfl (di_rng1 (by rfl) T.z_range (da_cons de_int da_nil)) (dg_name (i := 6) sc_law.nd rfl (Or.inl rfl)) (dss_kill [6, 7, 8, 9, 10, 11, 12, 13, 14, 15] (dss_cons (ds_asg (i := 7) sc_law.nd rfl (Or.inl rfl) (de_call (ok__law_next T) (hr.mono (by decide)) (by rfl) T.g__law_next T.F__law_next.kp T.b__law_next (da_cons (de_var 1 (pv 1)) (da_cons (de_add (de_blt call_len pn_len (by rfl) T.z_len boot_len' (da_cons (de_var 3 (pv 3)) da_nil)) de_int) da_nil)) rfl))
  (dss_cons (ds_asg (i := 8) sc_law.nd rfl (Or.inl rfl) (de_add (de_var 7 (pv 7)) (de_call (ok__law_next T) (hr.mono (by decide)) (by rfl) T.g__law_next T.F__law_next.kp T.b__law_next (da_cons (de_var 1 (pv 1)) (da_cons (de_add (de_sub (de_blt call_len pn_len (by rfl) T.z_len boot_len' (da_cons (de_var 3 (pv 3)) da_nil)) (de_var 7 (pv 7))) de_int) da_nil)) rfl)))
  (dss_cons (ds_asg (i := 9) sc_law.nd rfl (Or.inl rfl) (de_tup (da_cons (de_var 7 (pv 7)) (da_cons (de_call (ok__law_behind T) (hr.mono (by decide)) (by rfl) T.g__law_behind T.F__law_behind.kp T.b__law_behind (da_cons (de_tup (da_cons (de_tup da_nil) (da_cons (de_tup da_nil) da_nil))) (da_cons (de_slice (de_var 3 (pv 3)) do_none (do_some (de_var 7 (pv 7)))) da_nil)) rfl) (da_cons (de_call (ok__law_led T) (hr.mono (by decide)) (by rfl) T.g__law_led T.F__law_led.kp T.b__law_led (da_cons (de_var 2 (pv 2)) (da_cons (de_slice (de_var 3 (pv 3)) do_none (do_some (de_var 7 (pv 7)))) da_nil)) rfl) (da_cons (de_slice (de_var 3 (pv 3)) (do_some (de_var 7 (pv 7))) (do_some (de_var 8 (pv 8)))) da_nil))))))
  (dss_cons (ds_kill [8, 10, 11, 12, 13, 14, 15] (ds_for flat0 PassesOwn.never rfl (di_seq (de_lst (da_cons (de_var 9 (pv 9)) (da_cons (de_call (ok_cut_at T) (hr.mono (by decide)) (by rfl) T.g_cut_at T.F_cut_at.kp T.b_cut_at (da_cons (de_var 4 (pv 4)) (da_cons (de_var 7 (pv 7)) da_nil)) rfl) (da_cons (de_call (ok__law_other_log T) (hr.mono (by decide)) (by rfl) T.g__law_other_log T.F__law_other_log.kp T.b__law_other_log (da_cons (de_var 1 (pv 1)) (da_cons (de_var 9 (pv 9)) da_nil)) rfl) da_nil))))) (dg_name (i := 10) sc_law.nd rfl (Or.inl rfl)) (dss_kill [10, 11, 12, 13, 14, 15] (dss_cons (ds_asg (i := 11) sc_law.nd rfl (Or.inl rfl) (de_ty call_tupP pn_tupOf (by rfl) T.z_tuple boot_tuple' (da_cons (de_lc (own := [("_law_one", 16)]) rfl sc_law.nd (di_seq (de_var 2 (pv 2))) (blkOk_by (own := [("_law_one", 16)]) (by rfl)) (by decide) (fun _ _ _ _ _ => (dg_name (i := 16) sc_law.nd rfl (Or.inl rfl))) (fun _ _ _ _ _ => dts_nil) (fun _ _ _ _ _ => (de_call (ok__law_set T) (hr.mono (by decide)) (by rfl) T.g__law_set T.F__law_set.kp T.b__law_set (da_cons (de_var 1 (pv 1)) da_nil) rfl))) da_nil)))
  (dss_cons (ds_kill [11] (ds_asg (i := 12) sc_law.nd rfl (Or.inl rfl) (de_lst (da_cons (de_tup (da_cons (de_var 2 (pv 2)) (da_cons (de_var 3 (pv 3)) da_nil))) (da_cons (de_tup (da_cons (de_var 2 (pv 2)) (da_cons (de_slice (de_var 3 (pv 3)) do_none (do_some (de_var 8 (pv 8)))) da_nil))) (da_cons (de_tup (da_cons (de_var 2 (pv 2)) (da_cons (de_slice (de_var 3 (pv 3)) do_none (do_some (de_blt ((call_max2 rfl).or (cr_maxD rfl hr.units)) (pn_best maxD_mem) (by rfl) T.z_max boot_max' (da_cons de_int (da_cons (de_sub (de_var 8 (pv 8)) de_int) da_nil))))) da_nil))) (da_cons (de_tup (da_cons (de_var 11 (pv 11)) (da_cons (de_var 3 (pv 3)) da_nil))) da_nil)))))))
  (dss_one (ds_kill [10, 12, 13, 14, 15] (ds_for flat0 PassesOwn.never rfl (di_seq (de_add (de_var 12 (pv 12)) (de_lst (da_cons (de_tup (da_cons (de_var 2 (pv 2)) (da_cons (de_call (ok__law_with_other T) (hr.mono (by decide)) (by rfl) T.g__law_with_other T.F__law_with_other.kp T.b__law_with_other (da_cons (de_var 1 (pv 1)) (da_cons (de_var 3 (pv 3)) da_nil)) rfl) da_nil))) da_nil)))) (dg_tup rfl (dgs_cons (dg_name (i := 13) sc_law.nd rfl (Or.inl rfl)) (dgs_cons (dg_name (i := 14) sc_law.nd rfl (Or.inl rfl)) dgs_nil))) (dss_kill [13, 14, 15] (dss_cons (ds_asg (i := 15) sc_law.nd rfl (Or.inl rfl) (de_call (ok_does_agree T) (hr.mono (by decide)) (by rfl) T.g_does_agree T.F_does_agree.kp T.b_does_agree (da_cons (de_var 10 (pv 10)) (da_cons (de_var 13 (pv 13)) (da_cons (de_var 14 (pv 14)) da_nil))) rfl))
  (dss_one (ds_kill [13, 14, 15] (ds_if (dt_w (dw_or (dt_not (dt_val (de_isi isi_bool (by rfl) T.z_isinstance (pe_bltn (v := .ty "bool") (by rfl) T.z_bool boot_bool' rfl) (de_var 15 (pv 15))))) (dw_or1 (dt_ne hr (de_var 15 (pv 15)) (de_call (ok__law_agrees T) (hr.mono (by decide)) (by rfl) T.g__law_agrees T.F__law_agrees.kp T.b__law_agrees (da_cons (de_var 10 (pv 10)) (da_cons (de_var 13 (pv 13)) (da_cons (de_var 14 (pv 14)) da_nil))) rfl))))) (dss_one (ds_ret de_bool)) dss_nil)))))))))))))
  (dss_one (ds_kill [7, 9] (ds_if (dt_w (dw_or (dt_isnotB (de_call (ok_does_agree T) (hr.mono (by decide)) (by rfl) T.g_does_agree T.F_does_agree.kp T.b_does_agree (da_cons (de_call (ok_cut_at T) (hr.mono (by decide)) (by rfl) T.g_cut_at T.F_cut_at.kp T.b_cut_at (da_cons (de_var 4 (pv 4)) (da_cons (de_var 7 (pv 7)) da_nil)) rfl) (da_cons (de_var 2 (pv 2)) (da_cons (de_var 3 (pv 3)) da_nil))) rfl) de_bool) (dw_or1 (dt_isnotB (de_call (ok_does_agree T) (hr.mono (by decide)) (by rfl) T.g_does_agree T.F_does_agree.kp T.b_does_agree (da_cons (de_var 9 (pv 9)) (da_cons (de_var 2 (pv 2)) (da_cons (de_var 3 (pv 3)) da_nil))) rfl) de_bool)))) (dss_one (ds_ret de_bool)) dss_nil))))))))))
  (dss_one (ds_ret de_bool))))))))))
end
theorem all_mk {l : PySem.W.OpenLaw} {w : World} {K : PySem.W.Frag} {h : Heap} {mg : Str → Option Value} {fz f0 f1 f2 f3 f4 f5 f6 f7 f8 f9 f10 f11 f12 f13 f14 f15 f16 f17 f18 f19 f20 f21 f22 f23 f24 f25 f26 f27 f28 f29 f30 f31 f32 f33 f34 f35 f36 : Addr} (X : K.In h) (G : h.Ns mainGlobals mg) (hfa : mg "law" = some (.ref fz))
    {od0 an0 od1 an1 od2 an2 od3 an3 od4 an4 od5 an5 od6 an6 od7 an7 od8 an8 od9 an9 od10 an10 od11 an11 od12 an12 od13 an13 od14 an14 od15 an15 od16 an16 od17 an17 od18 an18 od19 an19 od20 an20 od21 an21 od22 an22 od23 an23 od24 an24 od25 an25 od26 an26 od27 an27 od28 an28 od29 an29 od30 an30 od31 an31 od32 an32 od33 an33 od34 an34 od35 an35 od36 an36 : Option Addr} {sl0 sl1 sl2 sl3 sl4 sl5 sl6 sl7 sl8 sl9 sl10 sl11 sl12 sl13 sl14 sl15 sl16 sl17 sl18 sl19 sl20 sl21 sl22 sl23 sl24 sl25 sl26 sl27 sl28 sl29 sl30 sl31 sl32 sl33 sl34 sl35 sl36 : Array (Option Value)} {oc0 kV0 dc0 pm0 cd0 ct0 oc1 kV1 dc1 pm1 cd1 ct1 oc2 kV2 dc2 pm2 cd2 ct2 oc3 kV3 dc3 pm3 cd3 ct3 oc4 kV4 dc4 pm4 cd4 ct4 oc5 kV5 dc5 pm5 cd5 ct5 oc6 kV6 dc6 pm6 cd6 ct6 oc7 kV7 dc7 pm7 cd7 ct7 oc8 kV8 dc8 pm8 cd8 ct8 oc9 kV9 dc9 pm9 cd9 ct9 oc10 kV10 dc10 pm10 cd10 ct10 oc11 kV11 dc11 pm11 cd11 ct11 oc12 kV12 dc12 pm12 cd12 ct12 oc13 kV13 dc13 pm13 cd13 ct13 oc14 kV14 dc14 pm14 cd14 ct14 oc15 kV15 dc15 pm15 cd15 ct15 oc16 kV16 dc16 pm16 cd16 ct16 oc17 kV17 dc17 pm17 cd17 ct17 oc18 kV18 dc18 pm18 cd18 ct18 oc19 kV19 dc19 pm19 cd19 ct19 oc20 kV20 dc20 pm20 cd20 ct20 oc21 kV21 dc21 pm21 cd21 ct21 oc22 kV22 dc22 pm22 cd22 ct22 oc23 kV23 dc23 pm23 cd23 ct23 oc24 kV24 dc24 pm24 cd24 ct24 oc25 kV25 dc25 pm25 cd25 ct25 oc26 kV26 dc26 pm26 cd26 ct26 oc27 kV27 dc27 pm27 cd27 ct27 oc28 kV28 dc28 pm28 cd28 ct28 oc29 kV29 dc29 pm29 cd29 ct29 oc30 kV30 dc30 pm30 cd30 ct30 oc31 kV31 dc31 pm31 cd31 ct31 oc32 kV32 dc32 pm32 cd32 ct32 oc33 kV33 dc33 pm33 cd33 ct33 oc34 kV34 dc34 pm34 cd34 ct34 oc35 kV35 dc35 pm35 cd35 ct35 oc36 kV36 dc36 pm36 cd36 ct36 : Value}
    (a0 : PySem.W.nsIn K mainGlobals "group_after" = some (some (.ref f0))) (l0 : K.lookup f0 = some ⟨oc0, od0, .func (PySem.W.fnOf "group_after" "group_after" (defArgs s_group_after) (defBody s_group_after) (defScope s_group_after) .none kV0 dc0 pm0 an0 cd0 ct0), sl0⟩) (c0 : PySem.W.codeIn K cd0 "group_after" = true) (k0 : PySem.W.keepIn K (.ref f0) = true)
    (a1 : PySem.W.nsIn K mainGlobals "group_behind" = some (some (.ref f1))) (l1 : K.lookup f1 = some ⟨oc1, od1, .func (PySem.W.fnOf "group_behind" "group_behind" (defArgs s_group_behind) (defBody s_group_behind) (defScope s_group_behind) .none kV1 dc1 pm1 an1 cd1 ct1), sl1⟩) (c1 : PySem.W.codeIn K cd1 "group_behind" = true) (k1 : PySem.W.keepIn K (.ref f1) = true)
    (a2 : PySem.W.nsIn K mainGlobals "first_store" = some (some (.ref f2))) (l2 : K.lookup f2 = some ⟨oc2, od2, .func (PySem.W.fnOf "first_store" "first_store" (defArgs s_first_store) (defBody s_first_store) (defScope s_first_store) .none kV2 dc2 pm2 an2 cd2 ct2), sl2⟩) (c2 : PySem.W.codeIn K cd2 "first_store" = true) (k2 : PySem.W.keepIn K (.ref f2) = true)
    (a3 : PySem.W.nsIn K mainGlobals "worth" = some (some (.ref f3))) (l3 : K.lookup f3 = some ⟨oc3, od3, .func (PySem.W.fnOf "worth" "worth" (defArgs s_worth) (defBody s_worth) (defScope s_worth) .none kV3 dc3 pm3 an3 cd3 ct3), sl3⟩) (c3 : PySem.W.codeIn K cd3 "worth" = true) (k3 : PySem.W.keepIn K (.ref f3) = true)
    (a4 : PySem.W.nsIn K mainGlobals "last_of" = some (some (.ref f4))) (l4 : K.lookup f4 = some ⟨oc4, od4, .func (PySem.W.fnOf "last_of" "last_of" (defArgs s_last_of) (defBody s_last_of) (defScope s_last_of) .none kV4 dc4 pm4 an4 cd4 ct4), sl4⟩) (c4 : PySem.W.codeIn K cd4 "last_of" = true) (k4 : PySem.W.keepIn K (.ref f4) = true)
    (a5 : PySem.W.nsIn K mainGlobals "with_one" = some (some (.ref f5))) (l5 : K.lookup f5 = some ⟨oc5, od5, .func (PySem.W.fnOf "with_one" "with_one" (defArgs s_with_one) (defBody s_with_one) (defScope s_with_one) .none kV5 dc5 pm5 an5 cd5 ct5), sl5⟩) (c5 : PySem.W.codeIn K cd5 "with_one" = true) (k5 : PySem.W.keepIn K (.ref f5) = true)
    (a6 : PySem.W.nsIn K mainGlobals "done" = some (some (.ref f6))) (l6 : K.lookup f6 = some ⟨oc6, od6, .func (PySem.W.fnOf "done" "done" (defArgs s_done) (defBody s_done) (defScope s_done) .none kV6 dc6 pm6 an6 cd6 ct6), sl6⟩) (c6 : PySem.W.codeIn K cd6 "done" = true) (k6 : PySem.W.keepIn K (.ref f6) = true)
    (a7 : PySem.W.nsIn K mainGlobals "all_done" = some (some (.ref f7))) (l7 : K.lookup f7 = some ⟨oc7, od7, .func (PySem.W.fnOf "all_done" "all_done" (defArgs s_all_done) (defBody s_all_done) (defScope s_all_done) .none kV7 dc7 pm7 an7 cd7 ct7), sl7⟩) (c7 : PySem.W.codeIn K cd7 "all_done" = true) (k7 : PySem.W.keepIn K (.ref f7) = true)
    (a8 : PySem.W.nsIn K mainGlobals "first_log" = some (some (.ref f8))) (l8 : K.lookup f8 = some ⟨oc8, od8, .func (PySem.W.fnOf "first_log" "first_log" (defArgs s_first_log) (defBody s_first_log) (defScope s_first_log) .none kV8 dc8 pm8 an8 cd8 ct8), sl8⟩) (c8 : PySem.W.codeIn K cd8 "first_log" = true) (k8 : PySem.W.keepIn K (.ref f8) = true)
    (a9 : PySem.W.nsIn K mainGlobals "length" = some (some (.ref f9))) (l9 : K.lookup f9 = some ⟨oc9, od9, .func (PySem.W.fnOf "length" "length" (defArgs s_length) (defBody s_length) (defScope s_length) .none kV9 dc9 pm9 an9 cd9 ct9), sl9⟩) (c9 : PySem.W.codeIn K cd9 "length" = true) (k9 : PySem.W.keepIn K (.ref f9) = true)
    (a10 : PySem.W.nsIn K mainGlobals "store_at" = some (some (.ref f10))) (l10 : K.lookup f10 = some ⟨oc10, od10, .func (PySem.W.fnOf "store_at" "store_at" (defArgs s_store_at) (defBody s_store_at) (defScope s_store_at) .none kV10 dc10 pm10 an10 cd10 ct10), sl10⟩) (c10 : PySem.W.codeIn K cd10 "store_at" = true) (k10 : PySem.W.keepIn K (.ref f10) = true)
    (a11 : PySem.W.nsIn K mainGlobals "put" = some (some (.ref f11))) (l11 : K.lookup f11 = some ⟨oc11, od11, .func (PySem.W.fnOf "put" "put" (defArgs s_put) (defBody s_put) (defScope s_put) .none kV11 dc11 pm11 an11 cd11 ct11), sl11⟩) (c11 : PySem.W.codeIn K cd11 "put" = true) (k11 : PySem.W.keepIn K (.ref f11) = true)
    (a12 : PySem.W.nsIn K mainGlobals "cut_at" = some (some (.ref f12))) (l12 : K.lookup f12 = some ⟨oc12, od12, .func (PySem.W.fnOf "cut_at" "cut_at" (defArgs s_cut_at) (defBody s_cut_at) (defScope s_cut_at) .none kV12 dc12 pm12 an12 cd12 ct12), sl12⟩) (c12 : PySem.W.codeIn K cd12 "cut_at" = true) (k12 : PySem.W.keepIn K (.ref f12) = true)
    (a13 : PySem.W.nsIn K mainGlobals "does_agree" = some (some (.ref f13))) (l13 : K.lookup f13 = some ⟨oc13, od13, .func (PySem.W.fnOf "does_agree" "does_agree" (defArgs s_does_agree) (defBody s_does_agree) (defScope s_does_agree) .none kV13 dc13 pm13 an13 cd13 ct13), sl13⟩) (c13 : PySem.W.codeIn K cd13 "does_agree" = true) (k13 : PySem.W.keepIn K (.ref f13) = true)
    (a14 : PySem.W.nsIn K mainGlobals "_law_cell_at" = some (some (.ref f14))) (l14 : K.lookup f14 = some ⟨oc14, od14, .func (PySem.W.fnOf "_law_cell_at" "_law_cell_at" (defArgs s__law_cell_at) (defBody s__law_cell_at) (defScope s__law_cell_at) .none kV14 dc14 pm14 an14 cd14 ct14), sl14⟩) (c14 : PySem.W.codeIn K cd14 "_law_cell_at" = true) (k14 : PySem.W.keepIn K (.ref f14) = true)
    (a15 : PySem.W.nsIn K mainGlobals "_law_state" = some (some (.ref f15))) (l15 : K.lookup f15 = some ⟨oc15, od15, .func (PySem.W.fnOf "_law_state" "_law_state" (defArgs s__law_state) (defBody s__law_state) (defScope s__law_state) .none kV15 dc15 pm15 an15 cd15 ct15), sl15⟩) (c15 : PySem.W.codeIn K cd15 "_law_state" = true) (k15 : PySem.W.keepIn K (.ref f15) = true)
    (a16 : PySem.W.nsIn K mainGlobals "_law_next" = some (some (.ref f16))) (l16 : K.lookup f16 = some ⟨oc16, od16, .func (PySem.W.fnOf "_law_next" "_law_next" (defArgs s__law_next) (defBody s__law_next) (defScope s__law_next) .none kV16 dc16 pm16 an16 cd16 ct16), sl16⟩) (c16 : PySem.W.codeIn K cd16 "_law_next" = true) (k16 : PySem.W.keepIn K (.ref f16) = true)
    (a17 : PySem.W.nsIn K mainGlobals "_law_wide" = some (some (.ref f17))) (l17 : K.lookup f17 = some ⟨oc17, od17, .func (PySem.W.fnOf "_law_wide" "_law_wide" (defArgs s__law_wide) (defBody s__law_wide) (defScope s__law_wide) .none kV17 dc17 pm17 an17 cd17 ct17), sl17⟩) (c17 : PySem.W.codeIn K cd17 "_law_wide" = true) (k17 : PySem.W.keepIn K (.ref f17) = true)
    (a18 : PySem.W.nsIn K mainGlobals "_law_value" = some (some (.ref f18))) (l18 : K.lookup f18 = some ⟨oc18, od18, .func (PySem.W.fnOf "_law_value" "_law_value" (defArgs s__law_value) (defBody s__law_value) (defScope s__law_value) .none kV18 dc18 pm18 an18 cd18 ct18), sl18⟩) (c18 : PySem.W.codeIn K cd18 "_law_value" = true) (k18 : PySem.W.keepIn K (.ref f18) = true)
    (a19 : PySem.W.nsIn K mainGlobals "_law_letter" = some (some (.ref f19))) (l19 : K.lookup f19 = some ⟨oc19, od19, .func (PySem.W.fnOf "_law_letter" "_law_letter" (defArgs s__law_letter) (defBody s__law_letter) (defScope s__law_letter) .none kV19 dc19 pm19 an19 cd19 ct19), sl19⟩) (c19 : PySem.W.codeIn K cd19 "_law_letter" = true) (k19 : PySem.W.keepIn K (.ref f19) = true)
    (a20 : PySem.W.nsIn K mainGlobals "_law_deed" = some (some (.ref f20))) (l20 : K.lookup f20 = some ⟨oc20, od20, .func (PySem.W.fnOf "_law_deed" "_law_deed" (defArgs s__law_deed) (defBody s__law_deed) (defScope s__law_deed) .none kV20 dc20 pm20 an20 cd20 ct20), sl20⟩) (c20 : PySem.W.codeIn K cd20 "_law_deed" = true) (k20 : PySem.W.keepIn K (.ref f20) = true)
    (a21 : PySem.W.nsIn K mainGlobals "_law_small" = some (some (.ref f21))) (l21 : K.lookup f21 = some ⟨oc21, od21, .func (PySem.W.fnOf "_law_small" "_law_small" (defArgs s__law_small) (defBody s__law_small) (defScope s__law_small) .none kV21 dc21 pm21 an21 cd21 ct21), sl21⟩) (c21 : PySem.W.codeIn K cd21 "_law_small" = true) (k21 : PySem.W.keepIn K (.ref f21) = true)
    (a22 : PySem.W.nsIn K mainGlobals "_law_set" = some (some (.ref f22))) (l22 : K.lookup f22 = some ⟨oc22, od22, .func (PySem.W.fnOf "_law_set" "_law_set" (defArgs s__law_set) (defBody s__law_set) (defScope s__law_set) .none kV22 dc22 pm22 an22 cd22 ct22), sl22⟩) (c22 : PySem.W.codeIn K cd22 "_law_set" = true) (k22 : PySem.W.keepIn K (.ref f22) = true)
    (a23 : PySem.W.nsIn K mainGlobals "_law_group" = some (some (.ref f23))) (l23 : K.lookup f23 = some ⟨oc23, od23, .func (PySem.W.fnOf "_law_group" "_law_group" (defArgs s__law_group) (defBody s__law_group) (defScope s__law_group) .none kV23 dc23 pm23 an23 cd23 ct23), sl23⟩) (c23 : PySem.W.codeIn K cd23 "_law_group" = true) (k23 : PySem.W.keepIn K (.ref f23) = true)
    (a24 : PySem.W.nsIn K mainGlobals "_law_row" = some (some (.ref f24))) (l24 : K.lookup f24 = some ⟨oc24, od24, .func (PySem.W.fnOf "_law_row" "_law_row" (defArgs s__law_row) (defBody s__law_row) (defScope s__law_row) .none kV24 dc24 pm24 an24 cd24 ct24), sl24⟩) (c24 : PySem.W.codeIn K cd24 "_law_row" = true) (k24 : PySem.W.keepIn K (.ref f24) = true)
    (a25 : PySem.W.nsIn K mainGlobals "_law_one_done" = some (some (.ref f25))) (l25 : K.lookup f25 = some ⟨oc25, od25, .func (PySem.W.fnOf "_law_one_done" "_law_one_done" (defArgs s__law_one_done) (defBody s__law_one_done) (defScope s__law_one_done) .none kV25 dc25 pm25 an25 cd25 ct25), sl25⟩) (c25 : PySem.W.codeIn K cd25 "_law_one_done" = true) (k25 : PySem.W.keepIn K (.ref f25) = true)
    (a26 : PySem.W.nsIn K mainGlobals "_law_told" = some (some (.ref f26))) (l26 : K.lookup f26 = some ⟨oc26, od26, .func (PySem.W.fnOf "_law_told" "_law_told" (defArgs s__law_told) (defBody s__law_told) (defScope s__law_told) .none kV26 dc26 pm26 an26 cd26 ct26), sl26⟩) (c26 : PySem.W.codeIn K cd26 "_law_told" = true) (k26 : PySem.W.keepIn K (.ref f26) = true)
    (a27 : PySem.W.nsIn K mainGlobals "_law_parts" = some (some (.ref f27))) (l27 : K.lookup f27 = some ⟨oc27, od27, .func (PySem.W.fnOf "_law_parts" "_law_parts" (defArgs s__law_parts) (defBody s__law_parts) (defScope s__law_parts) .none kV27 dc27 pm27 an27 cd27 ct27), sl27⟩) (c27 : PySem.W.codeIn K cd27 "_law_parts" = true) (k27 : PySem.W.keepIn K (.ref f27) = true)
    (a28 : PySem.W.nsIn K mainGlobals "_law_behind" = some (some (.ref f28))) (l28 : K.lookup f28 = some ⟨oc28, od28, .func (PySem.W.fnOf "_law_behind" "_law_behind" (defArgs s__law_behind) (defBody s__law_behind) (defScope s__law_behind) .none kV28 dc28 pm28 an28 cd28 ct28), sl28⟩) (c28 : PySem.W.codeIn K cd28 "_law_behind" = true) (k28 : PySem.W.keepIn K (.ref f28) = true)
    (a29 : PySem.W.nsIn K mainGlobals "_law_led" = some (some (.ref f29))) (l29 : K.lookup f29 = some ⟨oc29, od29, .func (PySem.W.fnOf "_law_led" "_law_led" (defArgs s__law_led) (defBody s__law_led) (defScope s__law_led) .none kV29 dc29 pm29 an29 cd29 ct29), sl29⟩) (c29 : PySem.W.codeIn K cd29 "_law_led" = true) (k29 : PySem.W.keepIn K (.ref f29) = true)
    (a30 : PySem.W.nsIn K mainGlobals "_law_rows" = some (some (.ref f30))) (l30 : K.lookup f30 = some ⟨oc30, od30, .func (PySem.W.fnOf "_law_rows" "_law_rows" (defArgs s__law_rows) (defBody s__law_rows) (defScope s__law_rows) .none kV30 dc30 pm30 an30 cd30 ct30), sl30⟩) (c30 : PySem.W.codeIn K cd30 "_law_rows" = true) (k30 : PySem.W.keepIn K (.ref f30) = true)
    (a31 : PySem.W.nsIn K mainGlobals "_law_agrees" = some (some (.ref f31))) (l31 : K.lookup f31 = some ⟨oc31, od31, .func (PySem.W.fnOf "_law_agrees" "_law_agrees" (defArgs s__law_agrees) (defBody s__law_agrees) (defScope s__law_agrees) .none kV31 dc31 pm31 an31 cd31 ct31), sl31⟩) (c31 : PySem.W.codeIn K cd31 "_law_agrees" = true) (k31 : PySem.W.keepIn K (.ref f31) = true)
    (a32 : PySem.W.nsIn K mainGlobals "_law_other_row" = some (some (.ref f32))) (l32 : K.lookup f32 = some ⟨oc32, od32, .func (PySem.W.fnOf "_law_other_row" "_law_other_row" (defArgs s__law_other_row) (defBody s__law_other_row) (defScope s__law_other_row) .none kV32 dc32 pm32 an32 cd32 ct32), sl32⟩) (c32 : PySem.W.codeIn K cd32 "_law_other_row" = true) (k32 : PySem.W.keepIn K (.ref f32) = true)
    (a33 : PySem.W.nsIn K mainGlobals "_law_with_other" = some (some (.ref f33))) (l33 : K.lookup f33 = some ⟨oc33, od33, .func (PySem.W.fnOf "_law_with_other" "_law_with_other" (defArgs s__law_with_other) (defBody s__law_with_other) (defScope s__law_with_other) .none kV33 dc33 pm33 an33 cd33 ct33), sl33⟩) (c33 : PySem.W.codeIn K cd33 "_law_with_other" = true) (k33 : PySem.W.keepIn K (.ref f33) = true)
    (a34 : PySem.W.nsIn K mainGlobals "_law_other_store" = some (some (.ref f34))) (l34 : K.lookup f34 = some ⟨oc34, od34, .func (PySem.W.fnOf "_law_other_store" "_law_other_store" (defArgs s__law_other_store) (defBody s__law_other_store) (defScope s__law_other_store) .none kV34 dc34 pm34 an34 cd34 ct34), sl34⟩) (c34 : PySem.W.codeIn K cd34 "_law_other_store" = true) (k34 : PySem.W.keepIn K (.ref f34) = true)
    (a35 : PySem.W.nsIn K mainGlobals "_law_other_log" = some (some (.ref f35))) (l35 : K.lookup f35 = some ⟨oc35, od35, .func (PySem.W.fnOf "_law_other_log" "_law_other_log" (defArgs s__law_other_log) (defBody s__law_other_log) (defScope s__law_other_log) .none kV35 dc35 pm35 an35 cd35 ct35), sl35⟩) (c35 : PySem.W.codeIn K cd35 "_law_other_log" = true) (k35 : PySem.W.keepIn K (.ref f35) = true)
    (a36 : PySem.W.nsIn K mainGlobals "law" = some (some (.ref f36))) (l36 : K.lookup f36 = some ⟨oc36, od36, .func (PySem.W.fnOf "law" "law" (defArgs s_law) (defBody s_law) (defScope s_law) .none kV36 dc36 pm36 an36 cd36 ct36), sl36⟩) (c36 : PySem.W.codeIn K cd36 "law" = true) (k36 : PySem.W.keepIn K (.ref f36) = true)
    (z_bool : PySem.W.nsIn K mainGlobals "bool" = some none)
    (z_dict : PySem.W.nsIn K mainGlobals "dict" = some none)
    (z_enumerate : PySem.W.nsIn K mainGlobals "enumerate" = some none)
    (z_isinstance : PySem.W.nsIn K mainGlobals "isinstance" = some none)
    (z_len : PySem.W.nsIn K mainGlobals "len" = some none)
    (z_list : PySem.W.nsIn K mainGlobals "list" = some none)
    (z_max : PySem.W.nsIn K mainGlobals "max" = some none)
    (z_range : PySem.W.nsIn K mainGlobals "range" = some none)
    (z_sorted : PySem.W.nsIn K mainGlobals "sorted" = some none)
    (z_tuple : PySem.W.nsIn K mainGlobals "tuple" = some none)
    : ∃ fd : FuncData, (∀ (s : Shared) (v : Value), BindsTo s fd ⟨[v], []⟩ [("_law_script", v)]) ∧ ∀ base : Heap, K.In base → base.Ns mainGlobals mg → FnOk l.prog w K mg base CX0 8 fz fd ["_law_script"] (spF K 1 f_law) := by
  have e := hfa.symm.trans (PySem.W.mg_of X G a36)
  cases e
  have F0 := fun_mk (st := s_group_after) l0 c0 k0
  have F1 := fun_mk (st := s_group_behind) l1 c1 k1
  have F2 := fun_mk (st := s_first_store) l2 c2 k2
  have F3 := fun_mk (st := s_worth) l3 c3 k3
  have F4 := fun_mk (st := s_last_of) l4 c4 k4
  have F5 := fun_mk (st := s_with_one) l5 c5 k5
  have F6 := fun_mk (st := s_done) l6 c6 k6
  have F7 := fun_mk (st := s_all_done) l7 c7 k7
  have F8 := fun_mk (st := s_first_log) l8 c8 k8
  have F9 := fun_mk (st := s_length) l9 c9 k9
  have F10 := fun_mk (st := s_store_at) l10 c10 k10
  have F11 := fun_mk (st := s_put) l11 c11 k11
  have F12 := fun_mk (st := s_cut_at) l12 c12 k12
  have F13 := fun_mk (st := s_does_agree) l13 c13 k13
  have F14 := fun_mk (st := s__law_cell_at) l14 c14 k14
  have F15 := fun_mk (st := s__law_state) l15 c15 k15
  have F16 := fun_mk (st := s__law_next) l16 c16 k16
  have F17 := fun_mk (st := s__law_wide) l17 c17 k17
  have F18 := fun_mk (st := s__law_value) l18 c18 k18
  have F19 := fun_mk (st := s__law_letter) l19 c19 k19
  have F20 := fun_mk (st := s__law_deed) l20 c20 k20
  have F21 := fun_mk (st := s__law_small) l21 c21 k21
  have F22 := fun_mk (st := s__law_set) l22 c22 k22
  have F23 := fun_mk (st := s__law_group) l23 c23 k23
  have F24 := fun_mk (st := s__law_row) l24 c24 k24
  have F25 := fun_mk (st := s__law_one_done) l25 c25 k25
  have F26 := fun_mk (st := s__law_told) l26 c26 k26
  have F27 := fun_mk (st := s__law_parts) l27 c27 k27
  have F28 := fun_mk (st := s__law_behind) l28 c28 k28
  have F29 := fun_mk (st := s__law_led) l29 c29 k29
  have F30 := fun_mk (st := s__law_rows) l30 c30 k30
  have F31 := fun_mk (st := s__law_agrees) l31 c31 k31
  have F32 := fun_mk (st := s__law_other_row) l32 c32 k32
  have F33 := fun_mk (st := s__law_with_other) l33 c33 k33
  have F34 := fun_mk (st := s__law_other_store) l34 c34 k34
  have F35 := fun_mk (st := s__law_other_log) l35 c35 k35
  have F36 := fun_mk (st := s_law) l36 c36 k36
  let fa : Nat → Addr := fun i => match i with | 0 => f0 | 1 => f1 | 2 => f2 | 3 => f3 | 4 => f4 | 5 => f5 | 6 => f6 | 7 => f7 | 8 => f8 | 9 => f9 | 10 => f10 | 11 => f11 | 12 => f12 | 13 => f13 | 14 => f14 | 15 => f15 | 16 => f16 | 17 => f17 | 18 => f18 | 19 => f19 | 20 => f20 | 21 => f21 | 22 => f22 | 23 => f23 | 24 => f24 | 25 => f25 | 26 => f26 | 27 => f27 | 28 => f28 | 29 => f29 | 30 => f30 | 31 => f31 | 32 => f32 | 33 => f33 | 34 => f34 | 35 => f35 | 36 => fz | _ => 0
  let fdd : Nat → FuncData := fun i => match i with | 0 => PySem.W.fnOf "group_after" "group_after" (defArgs s_group_after) (defBody s_group_after) (defScope s_group_after) .none kV0 dc0 pm0 an0 cd0 ct0 | 1 => PySem.W.fnOf "group_behind" "group_behind" (defArgs s_group_behind) (defBody s_group_behind) (defScope s_group_behind) .none kV1 dc1 pm1 an1 cd1 ct1 | 2 => PySem.W.fnOf "first_store" "first_store" (defArgs s_first_store) (defBody s_first_store) (defScope s_first_store) .none kV2 dc2 pm2 an2 cd2 ct2 | 3 => PySem.W.fnOf "worth" "worth" (defArgs s_worth) (defBody s_worth) (defScope s_worth) .none kV3 dc3 pm3 an3 cd3 ct3 | 4 => PySem.W.fnOf "last_of" "last_of" (defArgs s_last_of) (defBody s_last_of) (defScope s_last_of) .none kV4 dc4 pm4 an4 cd4 ct4 | 5 => PySem.W.fnOf "with_one" "with_one" (defArgs s_with_one) (defBody s_with_one) (defScope s_with_one) .none kV5 dc5 pm5 an5 cd5 ct5 | 6 => PySem.W.fnOf "done" "done" (defArgs s_done) (defBody s_done) (defScope s_done) .none kV6 dc6 pm6 an6 cd6 ct6 | 7 => PySem.W.fnOf "all_done" "all_done" (defArgs s_all_done) (defBody s_all_done) (defScope s_all_done) .none kV7 dc7 pm7 an7 cd7 ct7 | 8 => PySem.W.fnOf "first_log" "first_log" (defArgs s_first_log) (defBody s_first_log) (defScope s_first_log) .none kV8 dc8 pm8 an8 cd8 ct8 | 9 => PySem.W.fnOf "length" "length" (defArgs s_length) (defBody s_length) (defScope s_length) .none kV9 dc9 pm9 an9 cd9 ct9 | 10 => PySem.W.fnOf "store_at" "store_at" (defArgs s_store_at) (defBody s_store_at) (defScope s_store_at) .none kV10 dc10 pm10 an10 cd10 ct10 | 11 => PySem.W.fnOf "put" "put" (defArgs s_put) (defBody s_put) (defScope s_put) .none kV11 dc11 pm11 an11 cd11 ct11 | 12 => PySem.W.fnOf "cut_at" "cut_at" (defArgs s_cut_at) (defBody s_cut_at) (defScope s_cut_at) .none kV12 dc12 pm12 an12 cd12 ct12 | 13 => PySem.W.fnOf "does_agree" "does_agree" (defArgs s_does_agree) (defBody s_does_agree) (defScope s_does_agree) .none kV13 dc13 pm13 an13 cd13 ct13 | 14 => PySem.W.fnOf "_law_cell_at" "_law_cell_at" (defArgs s__law_cell_at) (defBody s__law_cell_at) (defScope s__law_cell_at) .none kV14 dc14 pm14 an14 cd14 ct14 | 15 => PySem.W.fnOf "_law_state" "_law_state" (defArgs s__law_state) (defBody s__law_state) (defScope s__law_state) .none kV15 dc15 pm15 an15 cd15 ct15 | 16 => PySem.W.fnOf "_law_next" "_law_next" (defArgs s__law_next) (defBody s__law_next) (defScope s__law_next) .none kV16 dc16 pm16 an16 cd16 ct16 | 17 => PySem.W.fnOf "_law_wide" "_law_wide" (defArgs s__law_wide) (defBody s__law_wide) (defScope s__law_wide) .none kV17 dc17 pm17 an17 cd17 ct17 | 18 => PySem.W.fnOf "_law_value" "_law_value" (defArgs s__law_value) (defBody s__law_value) (defScope s__law_value) .none kV18 dc18 pm18 an18 cd18 ct18 | 19 => PySem.W.fnOf "_law_letter" "_law_letter" (defArgs s__law_letter) (defBody s__law_letter) (defScope s__law_letter) .none kV19 dc19 pm19 an19 cd19 ct19 | 20 => PySem.W.fnOf "_law_deed" "_law_deed" (defArgs s__law_deed) (defBody s__law_deed) (defScope s__law_deed) .none kV20 dc20 pm20 an20 cd20 ct20 | 21 => PySem.W.fnOf "_law_small" "_law_small" (defArgs s__law_small) (defBody s__law_small) (defScope s__law_small) .none kV21 dc21 pm21 an21 cd21 ct21 | 22 => PySem.W.fnOf "_law_set" "_law_set" (defArgs s__law_set) (defBody s__law_set) (defScope s__law_set) .none kV22 dc22 pm22 an22 cd22 ct22 | 23 => PySem.W.fnOf "_law_group" "_law_group" (defArgs s__law_group) (defBody s__law_group) (defScope s__law_group) .none kV23 dc23 pm23 an23 cd23 ct23 | 24 => PySem.W.fnOf "_law_row" "_law_row" (defArgs s__law_row) (defBody s__law_row) (defScope s__law_row) .none kV24 dc24 pm24 an24 cd24 ct24 | 25 => PySem.W.fnOf "_law_one_done" "_law_one_done" (defArgs s__law_one_done) (defBody s__law_one_done) (defScope s__law_one_done) .none kV25 dc25 pm25 an25 cd25 ct25 | 26 => PySem.W.fnOf "_law_told" "_law_told" (defArgs s__law_told) (defBody s__law_told) (defScope s__law_told) .none kV26 dc26 pm26 an26 cd26 ct26 | 27 => PySem.W.fnOf "_law_parts" "_law_parts" (defArgs s__law_parts) (defBody s__law_parts) (defScope s__law_parts) .none kV27 dc27 pm27 an27 cd27 ct27 | 28 => PySem.W.fnOf "_law_behind" "_law_behind" (defArgs s__law_behind) (defBody s__law_behind) (defScope s__law_behind) .none kV28 dc28 pm28 an28 cd28 ct28 | 29 => PySem.W.fnOf "_law_led" "_law_led" (defArgs s__law_led) (defBody s__law_led) (defScope s__law_led) .none kV29 dc29 pm29 an29 cd29 ct29 | 30 => PySem.W.fnOf "_law_rows" "_law_rows" (defArgs s__law_rows) (defBody s__law_rows) (defScope s__law_rows) .none kV30 dc30 pm30 an30 cd30 ct30 | 31 => PySem.W.fnOf "_law_agrees" "_law_agrees" (defArgs s__law_agrees) (defBody s__law_agrees) (defScope s__law_agrees) .none kV31 dc31 pm31 an31 cd31 ct31 | 32 => PySem.W.fnOf "_law_other_row" "_law_other_row" (defArgs s__law_other_row) (defBody s__law_other_row) (defScope s__law_other_row) .none kV32 dc32 pm32 an32 cd32 ct32 | 33 => PySem.W.fnOf "_law_with_other" "_law_with_other" (defArgs s__law_with_other) (defBody s__law_with_other) (defScope s__law_with_other) .none kV33 dc33 pm33 an33 cd33 ct33 | 34 => PySem.W.fnOf "_law_other_store" "_law_other_store" (defArgs s__law_other_store) (defBody s__law_other_store) (defScope s__law_other_store) .none kV34 dc34 pm34 an34 cd34 ct34 | 35 => PySem.W.fnOf "_law_other_log" "_law_other_log" (defArgs s__law_other_log) (defBody s__law_other_log) (defScope s__law_other_log) .none kV35 dc35 pm35 an35 cd35 ct35 | 36 => PySem.W.fnOf "law" "law" (defArgs s_law) (defBody s_law) (defScope s_law) .none kV36 dc36 pm36 an36 cd36 ct36 | _ => PySem.W.fnOf "group_after" "group_after" (defArgs s_group_after) (defBody s_group_after) (defScope s_group_after) .none kV0 dc0 pm0 an0 cd0 ct0
  have T : Tx w K mg fa fdd := ⟨F0, F0.binds (ps := ["group", "row"]) (fun _ _ _ _ _ _ us hl => match us, hl with | [_, _], _ => rfl), PySem.W.mg_of X G a0, F1, F1.binds (ps := ["group", "rows"]) (fun _ _ _ _ _ _ us hl => match us, hl with | [_, _], _ => rfl), PySem.W.mg_of X G a1, F2, F2.binds (ps := []) (fun _ _ _ _ _ _ us hl => match us, hl with | [], _ => rfl), PySem.W.mg_of X G a2, F3, F3.binds (ps := ["store", "key"]) (fun _ _ _ _ _ _ us hl => match us, hl with | [_, _], _ => rfl), PySem.W.mg_of X G a3, F4, F4.binds (ps := ["store", "client"]) (fun _ _ _ _ _ _ us hl => match us, hl with | [_, _], _ => rfl), PySem.W.mg_of X G a4, F5, F5.binds (ps := ["things", "fresh"]) (fun _ _ _ _ _ _ us hl => match us, hl with | [_, _], _ => rfl), PySem.W.mg_of X G a5, F6, F6.binds (ps := ["store", "row"]) (fun _ _ _ _ _ _ us hl => match us, hl with | [_, _], _ => rfl), PySem.W.mg_of X G a6, F7, F7.binds (ps := ["store", "rows"]) (fun _ _ _ _ _ _ us hl => match us, hl with | [_, _], _ => rfl), PySem.W.mg_of X G a7, F8, F8.binds (ps := ["group"]) (fun _ _ _ _ _ _ us hl => match us, hl with | [_], _ => rfl), PySem.W.mg_of X G a8, F9, F9.binds (ps := ["log"]) (fun _ _ _ _ _ _ us hl => match us, hl with | [_], _ => rfl), PySem.W.mg_of X G a9, F10, F10.binds (ps := ["log", "count"]) (fun _ _ _ _ _ _ us hl => match us, hl with | [_, _], _ => rfl), PySem.W.mg_of X G a10, F11, F11.binds (ps := ["log", "row"]) (fun _ _ _ _ _ _ us hl => match us, hl with | [_, _], _ => rfl), PySem.W.mg_of X G a11, F12, F12.binds (ps := ["log", "count"]) (fun _ _ _ _ _ _ us hl => match us, hl with | [_, _], _ => rfl), PySem.W.mg_of X G a12, F13, F13.binds (ps := ["log", "group", "rows"]) (fun _ _ _ _ _ _ us hl => match us, hl with | [_, _, _], _ => rfl), PySem.W.mg_of X G a13, F14, F14.binds (ps := ["_law_script", "_law_k"]) (fun _ _ _ _ _ _ us hl => match us, hl with | [_, _], _ => rfl), PySem.W.mg_of X G a14, F15, F15.binds (ps := ["_law_cell", "_law_k"]) (fun _ _ _ _ _ _ us hl => match us, hl with | [_, _], _ => rfl), PySem.W.mg_of X G a15, F16, F16.binds (ps := ["_law_state_here", "_law_many"]) (fun _ _ _ _ _ _ us hl => match us, hl with | [_, _], _ => rfl), PySem.W.mg_of X G a16, F17, F17.binds (ps := ["_law_state_here"]) (fun _ _ _ _ _ _ us hl => match us, hl with | [_], _ => rfl), PySem.W.mg_of X G a17, F18, F18.binds (ps := ["_law_state_here"]) (fun _ _ _ _ _ _ us hl => match us, hl with | [_], _ => rfl), PySem.W.mg_of X G a18, F19, F19.binds (ps := ["_law_state_here"]) (fun _ _ _ _ _ _ us hl => match us, hl with | [_], _ => rfl), PySem.W.mg_of X G a19, F20, F20.binds (ps := ["_law_state_here"]) (fun _ _ _ _ _ _ us hl => match us, hl with | [_], _ => rfl), PySem.W.mg_of X G a20, F21, F21.binds (ps := ["_law_state_here", "_law_most"]) (fun _ _ _ _ _ _ us hl => match us, hl with | [_, _], _ => rfl), PySem.W.mg_of X G a21, F22, F22.binds (ps := ["_law_state_here"]) (fun _ _ _ _ _ _ us hl => match us, hl with | [_], _ => rfl), PySem.W.mg_of X G a22, F23, F23.binds (ps := ["_law_state_here"]) (fun _ _ _ _ _ _ us hl => match us, hl with | [_], _ => rfl), PySem.W.mg_of X G a23, F24, F24.binds (ps := ["_law_state_here", "_law_sets"]) (fun _ _ _ _ _ _ us hl => match us, hl with | [_, _], _ => rfl), PySem.W.mg_of X G a24, F25, F25.binds (ps := ["_law_values", "_law_last", "_law_row_here"]) (fun _ _ _ _ _ _ us hl => match us, hl with | [_, _, _], _ => rfl), PySem.W.mg_of X G a25, F26, F26.binds (ps := ["_law_values", "_law_last"]) (fun _ _ _ _ _ _ us hl => match us, hl with | [_, _], _ => rfl), PySem.W.mg_of X G a26, F27, F27.binds (ps := ["_law_store"]) (fun _ _ _ _ _ _ us hl => match us, hl with | [_], _ => rfl), PySem.W.mg_of X G a27, F28, F28.binds (ps := ["_law_store", "_law_rows_here"]) (fun _ _ _ _ _ _ us hl => match us, hl with | [_, _], _ => rfl), PySem.W.mg_of X G a28, F29, F29.binds (ps := ["_law_group_here", "_law_rows_here"]) (fun _ _ _ _ _ _ us hl => match us, hl with | [_, _], _ => rfl), PySem.W.mg_of X G a29, F30, F30.binds (ps := ["_law_group_here", "_law_cells", "_law_k"]) (fun _ _ _ _ _ _ us hl => match us, hl with | [_, _, _], _ => rfl), PySem.W.mg_of X G a30, F31, F31.binds (ps := ["_law_log", "_law_group_here", "_law_rows_here"]) (fun _ _ _ _ _ _ us hl => match us, hl with | [_, _, _], _ => rfl), PySem.W.mg_of X G a31, F32, F32.binds (ps := ["_law_state_here", "_law_row_here"]) (fun _ _ _ _ _ _ us hl => match us, hl with | [_, _], _ => rfl), PySem.W.mg_of X G a32, F33, F33.binds (ps := ["_law_state_here", "_law_rows_here"]) (fun _ _ _ _ _ _ us hl => match us, hl with | [_, _], _ => rfl), PySem.W.mg_of X G a33, F34, F34.binds (ps := ["_law_state_here", "_law_store"]) (fun _ _ _ _ _ _ us hl => match us, hl with | [_, _], _ => rfl), PySem.W.mg_of X G a34, F35, F35.binds (ps := ["_law_state_here", "_law_log"]) (fun _ _ _ _ _ _ us hl => match us, hl with | [_, _], _ => rfl), PySem.W.mg_of X G a35, F36, F36.binds (ps := ["_law_script"]) (fun _ _ _ _ _ _ us hl => match us, hl with | [_], _ => rfl), PySem.W.mg_of X G a36, PySem.W.mg_none_of X G z_bool, PySem.W.mg_none_of X G z_dict, PySem.W.mg_none_of X G z_enumerate, PySem.W.mg_none_of X G z_isinstance, PySem.W.mg_none_of X G z_len, PySem.W.mg_none_of X G z_list, PySem.W.mg_none_of X G z_max, PySem.W.mg_none_of X G z_range, PySem.W.mg_none_of X G z_sorted, PySem.W.mg_none_of X G z_tuple⟩
  exact ⟨PySem.W.fnOf "law" "law" (defArgs s_law) (defBody s_law) (defScope s_law) .none kV36 dc36 pm36 an36 cd36 ct36, fun s v => .of_eq rfl, fun base _ _ => ok_law (fa := fa) (fd := fdd) T⟩
end k34
end Py
end L2

namespace L2
namespace Py
namespace k34
open PySem PySem.Spec PyProof.Rows
local macro_rules | `(tactic| simp! only [$xs,*] $[$loc]?) => `(tactic| simp only [↓zq00, ↓kb, ↓zq01, ↓zq02, ↓we_C, ↓we_V, ↓zq03, ↓zq04, ↓zq05, ↓zq06, ↓zq07, ↓zq08, ↓zq09, ↓zq0a, ↓zq0b, ↓zq0c, ↓zq0d, ↓zq0e, ↓zq0f, ↓zq0g, ↓zq0h, ↓zq0i, ↓zq0j, ↓zq0k, ↓zq0l, ↓zq0m, ↓zq0n, ↓zq0o, ↓zq0p, ↓zq0q, ↓zq0r, ↓zq0s, ↓zq0t, ↓zq0u, ↓zq0v, ↓zq0w, ↓zq0x, ↓zq0y, ↓zq0z, ↓zq10, ↓zq11, ↓zq12, ↓cq_v, ↓zq13, ↓zq14, ↓zq15, ↓zq16, ↓zq17, ↓zq18, ↓zq19, ↓zq1a, ↓zq1b, ↓zq1c, ↓kz, ↓kz0, ↓zq1d, ↓zq1e, ↓kra, ↓kr1, ↓kr2, ↓zq1f, ↓zq1g, ↓krr, ↓kro, ↓zq1h, ↓zq1i, ↓zq1j, ↓zq1k, ↓zq1l, ↓zq1m, ↓zq1n, ↓zq1o, ↓zq1p, ↓zq1q, ↓zq1r, ↓zq1s, ↓zq1t, ↓zq1u, ↓zq1v, ↓zq1w, ↓zq1x, ↓zq1y, ↓zq1z, ↓zq20, ↓ks, ↓zq21, ↓zq22, ↓zq23, ↓zq24, ↓zq25, ↓zq26, ↓zq27, ↓zq28, ↓zq29, ↓zq2a, ↓zq2b, ↓zq2c, ↓zq2d, ↓zq2e, ↓zq2f, ↓zq2g, ↓zq2h, ↓zq2i, ↓zq2j, ↓zq2k, ↓zq2l, ↓zq2m, ↓zq2n, ↓zq2o, ↓zq2p, ↓kf, ↓zq2q, ↓for0, ↓for1, ↓zq2r, ↓zq2s, ↓zq2t, ↓turn, ↓tb, ↓zq2u, ↓zq2v, ↓zq2w, ↓zq2x, ↓zq2y, ↓nf, ↓lcq, ↓kl, ↓zq2z, ↓zq30, ↓zq31, ↓zq32, ↓zq33, ↓zq34, ↓zq35, ↓zq36, ↓zq37, ↓zq38, ↓zq39, ↓krt, ↓zq3a, ↓zq3b, ↓zq3c, ↓zq3d, ↓cqd, ↓zq3e, ↓zq3f, ↓zq3g, ↓zq3h, ↓zq3i, ↓zq3j, ↓zq3k, ↓zq3l, ↓zq3m, ↓zq3n, ↓zq3o, ↓zq3p, ↓ktr, ↓zq3q, ↓zq3r, ↓zq3s, ↓kbl, ↓kbt, ↓ktc, ↓zq3t, ↓kpc, ↓zq3u, ↓lt, ↓lt_a, ↓zq3v, ↓zq3w, ↓lt_c, ↓lt_d, ↓zq3x, ↓zq3y, ↓zq3z, ↓zq40, ↓zq41, ↓zq42, ↓zq43, ↓zq44, ↓zq45, ↓zq46, ↓lkq, rdk, opk, zq47, zq48, zq49, zq4a, zq4b, blk, zq4c, zq4d, zq4e, zq4f, zq4g, zq4h, rd_v, zq4i, zq4j, zq4k, zq4l, zq4m, zq4n, zq4o, zq4p, zq4q, zq4r, zpk, zq4s, zq4t, zq4u, zq4v, zq4w, zq4x, zq4y, zq4z, zq50, zq51, zq52, zq53, zq54, zq55, gt_t, zq56, zq57, mpo, mpi, zq58, zq59, mso, msi, zq5a, zq5b, dck, zq5c, zq5d, mdo, mdi, zq5e, zq5f, itd, rtcs, zq5g, zq5h, tpcs, zq5i, zq5j, lkj, zq5k, zq5l, zq5m, zq5n, Sl.dat, zq5o, zq5p, zq5q, zq5r, zq5s, zq5t, zq5u, zq5v, zq5w, zq5x, zq5y, zq5z, zq60, zq61, zq62, zq63, zq64, zq65, zq66, zq67, zq68, zq69, zq6a, zq6b, zq6c, zq6d, zq6e, zq6f, zq6g, zq6h, zq6i, zq6j, zq6k, zq6l, zq6m, zq6n, zq6o, zq6p, zq6q, zq6r, zq6s, zq6t, zq6u, zq6v, zq6w, argS, zq6x, ndN, back, zq6y, zq6z, bkS, inE, outE, Sl.lend, Sl.mut, zq70, PyData.isInt, PyData.isBool, PyData.isStr, PyData.isList, PyData.isTuple, isLT, pApp, pPop, pRev, pClr, zq71, zq72, zq73, zq74, zq75, zq76, zipP, zq77, zq78, zq79, zq7a, zq7b, zq7c, zq7d, zq7e, zq7f, zq7g, zq7h, zq7i, zq7j, zq7k, zq7l, zq7m, trk, zq7n, zq7o, zq7p, zq7q, zq7r, zq7s, zq7t, zq7u, zq7v, zq7w, zq7x, zq7y, zq7z, zq80, zq81, zq82, zq83, zq84, zq85, zq86, zq87, zq88, zq89, zq8a, zq8b, zq8c, zq8d, zq8e, zq8f, zq8g, zq8h, zq8i, zq8j, zq8k, zq8l, zq8m, zq8n, zq8o, zq8p, zq8q, zq8r, List.getElem?_cons_succ, List.getElem?_cons_zero, List.set_cons_succ, List.set_cons_zero, List.length_cons, List.length_nil, Option.bind_some, Option.map_some, List.contains_cons, List.contains_nil, Bool.or_false, Bool.or_true, Bool.false_or, Bool.true_or, Bool.and_true, Bool.true_and, Bool.and_false, Bool.false_and, Bool.not_true, Bool.not_false, Bool.not_not, lit_beq, String.reduceBEq, String.reduceEq, id_eq, if_true, if_false, Bool.false_eq_true, beq_self_eq_true, decide_true, decide_false, and_true, true_and, and_self, or_true, true_or, Nat.reduceAdd, Nat.reduceBEq, Nat.reduceEqDiff, Nat.reduceLT, Nat.reduceSub, Int.reduceAdd, Int.reduceSub, Int.reduceMul, Int.reduceNeg, Int.reducePow, Int.reduceLT, Int.reduceLE, Int.reduceToNat, Int.reduceBEq, Int.reduceEq, List.cons_append, List.nil_append, ↓reduceIte, Nat.zero_add, gt_iff_lt, Int.toNat_natCast, Int.cast_ofNat_Int, ↓we_dic1, ↓we_itrR, $xs,*] $[$loc]?)
/-- a state of the law's own draws -/
def Good (a b : Int) : Prop := 0 ≤ a ∧ 0 ≤ b ∧ b < 10000000000000000000
def stt (a b : Int) : PyData := .list [.int a, .int b]
theorem next_sp {a b many : Int} {Q : Op → En → Prop} (g : Good a b) (h : 0 < many) (hm : many < 115792089237316195423570985008687907853269984665640564039457584007913129639936) (hq : ∀ r a' b', 0 ≤ r → r < many → Good a' b' → Q (.v (.int r)) [.inn (stt a' b'), .val (.int many)]) : FE f__law_next [.inn (stt a b), .val (.int many)] nX Q := by
  obtain ⟨g1, g2, g3⟩ := g
  simp! only [fe__law_next, b__law_next, stt]
  refine brS_of (fun h1 => ?_) (fun h1 => ?_)
  · simp! only [h, hm]
    exact hq _ _ _ (Int.emod_nonneg _ (by omega)) (Int.emod_lt_of_pos _ h) ⟨Int.ediv_nonneg g1 (by omega), g2, g3⟩
  · have c1 : -18446744073709551616 < b := by omega
    have c2 : b < 18446744073709551616 := by omega
    have hb := Int.emod_nonneg (b * (b % 1009 + 48271) + 12345678910987) (show (2305843009213693951 : Int) ≠ 0 by decide)
    have hb2 := Int.emod_lt_of_pos (b * (b % 1009 + 48271) + 12345678910987) (show (0 : Int) < 2305843009213693951 by decide)
    simp! only [h, hm, c1, c2]
    exact hq _ _ _ (Int.emod_nonneg _ (by omega)) (Int.emod_lt_of_pos _ h) ⟨g1, hb, by omega⟩
theorem state_sp {c k : Int} {Q : Op → En → Prop} (hk : 0 ≤ k) (hk2 : k < 100000) (hq : ∀ a b, Good a b → Q (.fr (stt a b)) [.val (.int c), .val (.int k)]) : FE f__law_state [.val (.int c), .val (.int k)] nX Q := by
  simp! only [fe__law_state, b__law_state]
  refine brS_of (fun h1 => ?_) (fun h1 => ?_)
  · simp! only [id_eq]
    refine hq _ _ ⟨?_, ?_, ?_⟩
    · simp only [decide_eq_true_eq] at h1; omega
    · have := Int.emod_nonneg c (show (2147483647 : Int) ≠ 0 by decide); omega
    · have := Int.emod_lt_of_pos c (show (0 : Int) < 2147483647 by decide); omega
  · simp! only [id_eq]
    refine hq _ _ ⟨Int.le_refl _, ?_, ?_⟩
    · have := Int.emod_nonneg ((c % 1000000007 + 7919 * k + 1) * 48271) (show (2147483647 : Int) ≠ 0 by decide); omega
    · have := Int.emod_lt_of_pos ((c % 1000000007 + 7919 * k + 1) * 48271) (show (0 : Int) < 2147483647 by decide); omega
theorem wide_sp {a b : Int} {Q : Op → En → Prop} (g : Good a b) (hq : ∀ r a' b', 0 ≤ r → Good a' b' → Q (.v (.int r)) [.inn (stt a' b')]) : FE f__law_wide [.inn (stt a b)] nX Q := by
  simp! only [fe__law_wide, b__law_wide, rg_lit (M := 5) (by decide), rng_nat]
  refine wf_all (fun (i : Nat) => .int i) (List.range 5) (fun ρ => ∃ a b r, Good a b ∧ 0 ≤ r ∧ ρ = [.inn (stt a b), .val (.int r), .no]) ?_ ?_ ⟨a, b, 0, g, Int.le_refl _, rfl⟩
  · rintro i _ ρ ⟨a, b, r, g, r0, rfl⟩
    simp! only [g__law_wide_1, l__law_wide_1]
    refine next_sp g (by decide) (by decide) fun r2 a2 b2 r20 r21 g2 => ?_
    simp! only [id_eq]
    refine ⟨a2, b2, _, g2, ?_, rfl⟩
    have := Int.mul_nonneg r0 (show (0 : Int) ≤ 1000000000000 by decide)
    omega
  · rintro ρ ⟨a, b, r, g, r0, rfl⟩
    simp! only [id_eq]
    exact hq _ _ _ r0 g
theorem value_sp {a b : Int} {Q : Op → En → Prop} (g : Good a b) (hq : ∀ r a' b', Good a' b' → Q (.v (.int r)) [.inn (stt a' b')]) : FE f__law_value [.inn (stt a b)] nX Q := by
  simp! only [fe__law_value, b__law_value]
  refine next_sp g (by decide) (by decide) fun w a1 b1 w0 w1 g1 => ?_
  simp! only [id_eq]
  refine brS_of (fun h1 => ?_) (fun h1 => ?_)
  · simp! only [id_eq]
    refine next_sp g1 (by decide) (by decide) fun w a1 b1 w0 w1 g1 => ?_
    simp! only [id_eq]
    exact hq _ _ _ g1
  · simp! only [id_eq]
    refine brS_of (fun h1 => ?_) (fun h1 => ?_)
    · simp! only [id_eq]
      refine wide_sp g1 fun w a1 b1 w0 g1 => ?_
      simp! only [id_eq]
      exact hq _ _ _ g1
    · simp! only [id_eq]
      refine brS_of (fun h1 => ?_) (fun h1 => ?_)
      · simp! only [id_eq]
        refine wide_sp g1 fun w a1 b1 w0 g1 => ?_
        simp! only [id_eq]
        exact hq _ _ _ g1
      · simp! only [id_eq]
        refine next_sp g1 (by decide) (by decide) fun w a1 b1 w0 w1 g1 => ?_
        simp! only [id_eq]
        exact hq _ _ _ g1
def KeyOk (c : Nat) : Prop := 97 ≤ c ∧ c ≤ 122
theorem letter_sp {a b : Int} {Q : Op → En → Prop} (g : Good a b) (hq : ∀ c a' b', KeyOk c → Good a' b' → Q (.v (encL c)) [.inn (stt a' b')]) : FE f__law_letter [.inn (stt a b)] nX Q := by
  simp! only [fe__law_letter, b__law_letter]
  refine next_sp g (by decide) (by decide) fun w a1 b1 w0 w1 g1 => ?_
  simp! only [id_eq]
  refine brS_of (fun h1 => ?_) (fun h1 => ?_)
  · simp! only [id_eq]
    refine next_sp g1 (by decide) (by decide) fun w a1 b1 w0 w1 g1 => ?_
    simp! only [pIx_alpha w0 w1]
    exact hq _ _ _ ⟨by omega, by omega⟩ g1
  · simp! only [id_eq]
    refine next_sp g1 (by decide) (by decide) fun w a1 b1 w0 w1 g1 => ?_
    obtain ⟨c, e, hc⟩ : ∃ c, pIx (.str "kaz") (.int w) = some (.v (encL c)) ∧ KeyOk c := by
      have h3 : w = 0 ∨ w = 1 ∨ w = 2 := by omega
      rcases h3 with e | e | e <;> subst e
      · exact ⟨107, by rw [pIx_s, if_pos (str_small (by decide +kernel))]; rfl, by decide, by decide⟩
      · exact ⟨97, by rw [pIx_s, if_pos (str_small (by decide +kernel))]; rfl, by decide, by decide⟩
      · exact ⟨122, by rw [pIx_s, if_pos (str_small (by decide +kernel))]; rfl, by decide, by decide⟩
    simp! only [e]
    exact hq _ _ _ hc g1
inductive Deed where
  | get (k : Nat) | put (k : Nat) (v : Int) | add (k : Nat) (v : Int)
def encD : Deed → PyData
  | .get k => .tuple [.str "get", encL k]
  | .put k v => .tuple [.str "put", encL k, .int v]
  | .add k v => .tuple [.str "add", encL k, .int v]
def Deed.key : Deed → Nat
  | .get k => k
  | .put k _ => k
  | .add k _ => k
theorem deed_sp {a b : Int} {Q : Op → En → Prop} (g : Good a b) (hq : ∀ d a' b', KeyOk d.key → Good a' b' → Q (.v (encD d)) [.inn (stt a' b')]) : FE f__law_deed [.inn (stt a b)] nX Q := by
  simp! only [fe__law_deed, b__law_deed]
  refine next_sp g (by decide) (by decide) fun w a1 b1 w0 w1 g1 => ?_
  simp! only [id_eq]
  refine letter_sp g1 fun c a2 b2 hc g2 => ?_
  simp! only [id_eq]
  have h3 : w = 0 ∨ w = 1 ∨ w = 2 := by omega
  rcases h3 with e | e | e <;> subst e
  · simp! only [id_eq]
    exact hq (.get c) _ _ hc g2
  · simp! only [id_eq]
    refine value_sp g2 fun v a3 b3 g3 => ?_
    simp! only [id_eq]
    exact hq (.put c v) _ _ hc g3
  · simp! only [id_eq]
    refine value_sp g2 fun v a3 b3 g3 => ?_
    simp! only [id_eq]
    exact hq (.add c v) _ _ hc g3
theorem small_sp {a b m : Int} {Q : Op → En → Prop} (g : Good a b) (hm : 0 < m) (hm2 : m < 115792089237316195423570985008687907853269984665640564039457584007913129639936) (hq : ∀ r a' b', 0 ≤ r → Good a' b' → Q (.v (.int r)) [.inn (stt a' b'), .val (.int m)]) : FE f__law_small [.inn (stt a b), .val (.int m)] nX Q := by
  simp! only [fe__law_small, b__law_small]
  refine next_sp g (by decide) (by decide) fun w a1 b1 w0 w1 g1 => ?_
  simp! only [id_eq]
  refine brS_of (fun h1 => ?_) (fun h1 => ?_)
  · simp! only [id_eq]
    refine wide_sp g1 fun w a1 b1 w0 g1 => ?_
    simp! only [id_eq]
    exact hq _ _ _ w0 g1
  · simp! only [id_eq]
    refine next_sp g1 hm hm2 fun w a1 b1 w0 w1 g1 => ?_
    simp! only [id_eq]
    exact hq _ _ _ w0 g1

theorem bit_test (B i : Nat) : (Builtin.bitAnd ((B : Int) / 2 ^ i) 1 == 1) = (B / 2 ^ i % 2 == 1) := by
  have e : (B : Int) / 2 ^ i = ((B / 2 ^ i : Nat) : Int) := by
    rw [Int.natCast_ediv, Int.natCast_pow]; rfl
  rw [e, band1]
  have h2 : B / 2 ^ i % 2 = 0 ∨ B / 2 ^ i % 2 = 1 := by omega
  rcases h2 with h | h <;> rw [h] <;> rfl
def encSet (s : List Int) : PyData := .tuple (s.map PyData.int)
theorem set_sp {a b : Int} {Q : Op → En → Prop} (g : Good a b) (hq : ∀ (B : Nat) a' b', 1 ≤ B → B ≤ 63 → Good a' b' → Q (.v (encSet (bitSet B))) [.inn (stt a' b')]) : FE f__law_set [.inn (stt a b)] nX Q := by
  simp! only [fe__law_set, b__law_set]
  refine next_sp g (by decide) (by decide) fun r a1 b1 r0 r1 g1 => ?_
  obtain ⟨B, hB⟩ : ∃ B : Nat, 1 + r = B := ⟨(1 + r).toNat, by omega⟩
  simp! only [rg_lit (M := 6) (by decide), rng_nat, hB]
  refine lcs_filter (fun i : Nat => .int i) (fun i => B / 2 ^ i % 2 == 1) (fun i : Nat => .int i) (List.range 6) (by rw [List.length_range]; omega) (fun i hi => ?_) ?_
  · have e3 : (0 : Int) ≤ i := by omega
    simp! only [cg__law_set_1, ct__law_set_1, ce__law_set_1, e3, bit_test]
    refine lt_b (fun h => ?_) (fun h => ?_)
    · simp! only [h]
    · simp! only [h]
  · simp! only [id_eq]
    have := hq B a1 b1 (by omega) (by omega) g1
    unfold encSet bitSet at this
    rw [List.map_map] at this
    exact this
def encGroup (g : List (List Int)) : PyData := .tuple (g.map encSet)
/-- a set by bits -/
def SetOk (s : List Int) : Prop := ∃ B, 1 ≤ B ∧ B ≤ 63 ∧ s = bitSet B
theorem all1 {α : Type} {P : α → Prop} {x : α} (h : P x) : ∀ s ∈ [x], P s := fun s m => by
  rw [List.mem_singleton] at m; rw [m]; exact h
theorem all2 {α : Type} {P : α → Prop} {x y : α} (h : P x) (h2 : P y) : ∀ s ∈ [x, y], P s := fun s m => by
  rcases List.mem_cons.mp m with e | m
  · rw [e]; exact h
  · rw [List.mem_singleton] at m; rw [m]; exact h2
theorem group_sp {a b : Int} {Q : Op → En → Prop} (g : Good a b) (hq : ∀ (G : List (List Int)) a' b', (G.length = 1 ∨ G.length = 2) → (∀ s ∈ G, SetOk s) → Good a' b' → Q (.v (encGroup G)) [.inn (stt a' b')]) : FE f__law_group [.inn (stt a b)] nX Q := by
  simp! only [fe__law_group, b__law_group]
  refine next_sp g (by decide) (by decide) fun r a1 b1 r0 r1 g1 => ?_
  simp! only [id_eq]
  refine brS_of (fun h1 => ?_) (fun h1 => ?_)
  · simp! only [id_eq]
    refine set_sp g1 fun B1 a2 b2 l1 u1 g2 => ?_
    simp! only [id_eq]
    refine set_sp g2 fun B2 a3 b3 l2 u2 g3 => ?_
    simp! only [id_eq]
    exact hq [bitSet B1, bitSet B2] _ _ (.inr rfl) (all2 ⟨_, l1, u1, rfl⟩ ⟨_, l2, u2, rfl⟩) g3
  · simp! only [id_eq]
    refine set_sp g1 fun B1 a2 b2 l1 u1 g2 => ?_
    simp! only [id_eq]
    exact hq [bitSet B1] _ _ (.inl rfl) (all1 ⟨_, l1, u1, rfl⟩) g2
inductive Row where
  | change (s : List Int) | close | deed (c n : Int) (d : Deed)
def encR : Row → PyData
  | .change s => .tuple [.str "change", encSet s]
  | .close => .tuple [.str "close"]
  | .deed c n d => .tuple [.str "deed", .int c, .int n, encD d]
def RowOk : Row → Prop
  | .change s => SetOk s
  | .close => True
  | .deed c n d => 0 ≤ c ∧ 1 ≤ n ∧ KeyOk d.key
/-- what the law lets, by how many sets the group has -/
def RowLet (m : Nat) : Row → Prop
  | .change _ => m = 1
  | .close => m = 2
  | .deed _ _ _ => True
theorem row_sp {a b : Int} {m : Nat} {Q : Op → En → Prop} (g : Good a b) (hm : m = 1 ∨ m = 2) (hq : ∀ r a' b', RowOk r → RowLet m r → Good a' b' → Q (.v (encR r)) [.inn (stt a' b'), .val (.int m)]) : FE f__law_row [.inn (stt a b), .val (.int m)] nX Q := by
  simp! only [fe__law_row, b__law_row]
  refine next_sp g (by decide) (by decide) fun r a1 b1 r0 r1 g1 => ?_
  simp! only [id_eq]
  refine brS_of (fun h1 => ?_) (fun h1 => ?_)
  · simp! only [id_eq]
    refine brS_of (fun h2 => ?_) (fun h2 => ?_)
    · simp! only [id_eq]
      have : m = 2 := by simp at h2; omega
      exact hq .close _ _ trivial this g1
    · simp! only [id_eq]
      refine set_sp g1 fun B1 a2 b2 l1 u1 g2 => ?_
      simp! only [id_eq]
      have : m = 1 := by simp at h2; omega
      exact hq (.change (bitSet B1)) _ _ ⟨_, l1, u1, rfl⟩ this g2
  · simp! only [id_eq]
    refine small_sp g1 (by decide) (by decide) fun c a2 b2 c0 g2 => ?_
    simp! only [id_eq]
    refine small_sp g2 (by decide) (by decide) fun n a3 b3 n0 g3 => ?_
    simp! only [id_eq]
    refine deed_sp g3 fun d a4 b4 hd g4 => ?_
    simp! only [id_eq]
    exact hq (.deed c (1 + n) d) _ _ ⟨c0, by omega, hd⟩ trivial g4

def encV (p : Nat × Int) : PyData := .tuple [encL p.1, .int p.2]
def encT (t : Int × Int × Int) : PyData := .tuple [.int t.1, .int t.2.1, .int t.2.2]
abbrev Store := List (Nat × Int) × List (Int × Int × Int)
def encS (s : Store) : PyData := .tuple [.tuple (s.1.map encV), .tuple (s.2.map encT)]
structure StoreOk (s : Store) : Prop where
  rise : (s.1.map (·.1)).Pairwise (· < ·)
  keys : ∀ p ∈ s.1, KeyOk p.1
  risT : (s.2.map (·.1)).Pairwise (· < ·)
  last : ∀ t ∈ s.2, 0 ≤ t.1 ∧ 1 ≤ t.2.1
  len : s.1.length ≤ 100 ∧ s.2.length ≤ 100

/-- a group behind one row -/
def gAfter (G : List (List Int)) : Row → Option (List (List Int))
  | .deed _ _ _ => some G
  | .change s => match G with
    | [g] => some [g, s]
    | _ => none
  | .close => match G with
    | [_, g] => some [g]
    | _ => none
def gBehind (G : List (List Int)) : List Row → Option (List (List Int))
  | [] => some G
  | r :: rs => (gAfter G r).bind fun G' => gBehind G' rs
def encO : Option (List (List Int)) → PyData
  | none => .none
  | some G => encGroup G
theorem gAfter_len {G G' : List (List Int)} {r : Row} (h : G.length = 1 ∨ G.length = 2) (e : gAfter G r = some G') : G'.length = 1 ∨ G'.length = 2 := by
  cases r with
  | deed c n d => cases e; exact h
  | change s =>
    match G, h, e with
    | [g], _, e => cases e; exact .inr rfl
    | [g, g2], _, e => cases e
  | close =>
    match G, h, e with
    | [g], _, e => cases e
    | [g, g2], _, e => cases e; exact .inl rfl
theorem group_after_eq {G : List (List Int)} (r : Row) (h : G.length = 1 ∨ G.length = 2) : f_group_after [.val (encGroup G), .val (encR r)] = .ok (.v (encO (gAfter G r))) [.val (encGroup G), .val (encR r)] := by
  refine eq_fe ?_
  match G, h with
  | [g], _ => cases r <;> simp! only [fe_group_after, b_group_after, encR, encGroup, List.map_cons, List.map_nil, gAfter, encO]
  | [g, g2], _ => cases r <;> simp! only [fe_group_after, b_group_after, encR, encGroup, List.map_cons, List.map_nil, gAfter, encO]
theorem group_behind_eq : ∀ (rs : List Row) {G : List (List Int)}, (G.length = 1 ∨ G.length = 2) → f_group_behind [.val (encGroup G), .val (.tuple (rs.map encR))] = .ok (.v (encO (gBehind G rs))) [.val (encGroup G), .val (.tuple (rs.map encR))] := by
  intro rs G h
  refine eq_fe ?_
  simp! only [fe_group_behind, b_group_behind]
  generalize hA : [Sl.val (encGroup G), Sl.val (PyData.tuple (List.map encR rs))] = args
  generalize hT : PyData.tuple (List.map encR rs) = T
  have hargs : ∃ x y, args = [.val x, .val y] := ⟨_, _, hA.symm⟩
  clear hA hT
  obtain ⟨x, y, rfl⟩ := hargs
  induction rs generalizing G with
  | nil => simp! only [List.map_nil, gBehind, encO]
  | cons r rs ih =>
    rw [List.map_cons]
    refine wf_cons ?_
    simp! only [g_group_behind_1, l_group_behind_1, fe_of (group_after_eq r h), gBehind]
    cases e : gAfter G r with
    | none => simp! only [encO, Option.bind_none]
    | some G' =>
      have := ih (gAfter_len h e)
      simp! only [encO, encGroup, Option.bind_some] at this ⊢
      exact this

def Row.isDeed : Row → Bool
  | .deed _ _ _ => true
  | _ => false
theorem row0 (r : Row) : ∃ w, pIx (encR r) (.int 0) = some (.v (.str w)) ∧ (w == Str.ofString "deed") = r.isDeed := by
  cases r with
  | deed c n d => exact ⟨_, rfl, by show (Str.ofString "deed" == Str.ofString "deed") = true; decide +kernel⟩
  | change s => exact ⟨_, rfl, by show (Str.ofString "change" == Str.ofString "deed") = false; decide +kernel⟩
  | close => exact ⟨_, rfl, by show (Str.ofString "close" == Str.ofString "deed") = false; decide +kernel⟩

def encLog (c : Int) (st : PyData) (G : List (List Int)) (rs : List Row) : PyData := .tuple [.int c, st, encGroup G, .tuple (rs.map encR)]
/-- each row is let, where so many sets stand first -/
def LetA : Nat → List Row → Prop
  | _, [] => True
  | m, r :: rs => RowLet m r ∧ LetA (if r.isDeed = true then m else 3 - m) rs
theorem LetA.take : ∀ (n m : Nat) (rs : List Row), LetA m rs → LetA m (rs.take n)
  | 0, _, _, _ => trivial
  | _ + 1, _, [], _ => trivial
  | n + 1, m, r :: rs, h => ⟨h.1, LetA.take n _ rs h.2⟩
theorem LetA.snoc : ∀ (rs : List Row) (m k : Nat) (r : Row), LetA m rs → (rs.foldl (fun m r => if r.isDeed = true then m else 3 - m) m) = k → RowLet k r → LetA m (rs ++ [r])
  | [], m, k, r, _, e, h => by cases e; exact ⟨h, trivial⟩
  | x :: rs, m, k, r, h, e, hr => ⟨h.1, LetA.snoc rs _ k r h.2 e hr⟩
theorem rows_sp {G : List (List Int)} {cs : List Int} {k : Int} {Q : Op → En → Prop} (hk : 0 ≤ k) (hk2 : k < 1000) (hc : cs.length ≤ 100) (h : G.length = 1 ∨ G.length = 2) (hq : ∀ rs, rs.length = cs.length → (∀ r ∈ rs, RowOk r) → LetA G.length rs → Q (.v (.tuple (rs.map encR))) [.val (encGroup G), .inn (.list (cs.map PyData.int)), .val (.int k)]) : FE f__law_rows [.val (encGroup G), .inn (.list (cs.map PyData.int)), .val (.int k)] nX Q := by
  simp! only [fe__law_rows, b__law_rows, encGroup, List.length_map]
  rw [enum_map]
  refine wf_inv (fun p : Int × Nat => .tuple [.int (0 + (p.2 : Nat)), .int p.1]) cs.zipIdx (fun pre ρ => ∃ (m : Nat) (rs : List Row), (m = 1 ∨ m = 2) ∧ rs.length = pre.length ∧ (∀ r ∈ rs, RowOk r) ∧ LetA G.length rs ∧ rs.foldl (fun m r => if r.isDeed = true then m else 3 - m) G.length = m ∧ ρ = [.val (.tuple (G.map encSet)), .bor (.list (cs.map PyData.int)), .val (.int k), .val (.int m), .own (.list (rs.map encR)), .no, .no, .no]) ?_ ?_ ⟨G.length, [], h, rfl, (fun _ m => nomatch m), trivial, rfl, rfl⟩
  · rintro pre x post hx ρ ⟨m, rs, hm, hl, hr, ha, hf, rfl⟩
    obtain ⟨e1, e2⟩ := zipIdx_split hx
    have hlen : pre.length < cs.length := by rw [e2]; simp
    have hz : (rs.map encR).length < sizeLine := small1000 (by rw [List.length_map]; omega)
    simp! only [g__law_rows_1, l__law_rows_1, Int.zero_add]
    refine state_sp (by omega) (by omega) fun a b g => ?_
    simp! only [id_eq]
    refine row_sp g hm fun r a1 b1 ok lt g1 => ?_
    obtain ⟨w, ew, hw⟩ := row0 r
    simp! only [ew, hw]
    cases hd : r.isDeed with
    | true =>
      simp! only [hz]
      refine ⟨m, rs ++ [r], hm, by simp [hl], ?_, LetA.snoc rs _ m r ha hf lt, ?_, by simp⟩
      · intro y my
        rcases List.mem_append.mp my with z | z
        · exact hr y z
        · rw [List.mem_singleton] at z; rw [z]; exact ok
      · rw [List.foldl_append, hf]; simp [hd]
    | false =>
      have e3 : (3 : Int) - m = ((3 - m : Nat) : Int) := by omega
      simp! only [hz, e3]
      refine ⟨3 - m, rs ++ [r], by omega, by simp [hl], ?_, LetA.snoc rs _ m r ha hf lt, ?_, by simp⟩
      · intro y my
        rcases List.mem_append.mp my with z | z
        · exact hr y z
        · rw [List.mem_singleton] at z; rw [z]; exact ok
      · rw [List.foldl_append, hf]; simp [hd]
  · rintro ρ ⟨m, rs, hm, hl, hr, ha, hf, rfl⟩
    simp! only [id_eq]
    exact hq rs (by rw [hl, List.length_zipIdx]) hr ha

/-- the group that the law's own walk comes to -/
def ledS (G : List (List Int)) : Row → List (List Int)
  | .deed _ _ _ => G
  | .change s => match G with
    | [g] => [g, s]
    | _ => G
  | .close => match G with
    | [_, g] => [g]
    | _ => G
def led : List (List Int) → List Row → List (List Int)
  | G, [] => G
  | G, r :: rs => led (ledS G r) rs
theorem behind_led : ∀ (rs : List Row) (G : List (List Int)), (G.length = 1 ∨ G.length = 2) → LetA G.length rs → gBehind G rs = some (led G rs) ∧ ((led G rs).length = 1 ∨ (led G rs).length = 2)
  | [], G, h, _ => ⟨rfl, h⟩
  | r :: rs, G, h, ha => by
    match r, G, h, ha with
    | .deed c n d, G, h, ha =>
      have := behind_led rs G h ha.2
      rw [gBehind, gAfter, Option.bind_some, led, ledS]; exact this
    | .change s, [g], _, ha => exact behind_led rs [g, s] (.inr rfl) ha.2
    | .change s, [g, g2], _, ha => exact absurd (show (2 : Nat) = 1 from ha.1) (by decide)
    | .close, [g], _, ha => exact absurd (show (1 : Nat) = 2 from ha.1) (by decide)
    | .close, [g, g2], _, ha => exact behind_led rs [g2] (.inl rfl) ha.2
theorem led_eq {G : List (List Int)} {rs : List Row} (h : G.length = 1 ∨ G.length = 2) (ha : LetA G.length rs) : f__law_led [.val (encGroup G), .val (.tuple (rs.map encR))] = .ok (.v (encGroup (led G rs))) [.val (encGroup G), .val (.tuple (rs.map encR))] := by
  refine eq_fe ?_
  simp! only [fe__law_led, b__law_led]
  generalize hA : [Sl.val (encGroup G), Sl.val (PyData.tuple (List.map encR rs))] = args
  generalize hT : PyData.tuple (List.map encR rs) = T
  have hargs : ∃ x y, args = [.val x, .val y] := ⟨_, _, hA.symm⟩
  clear hA hT
  obtain ⟨x, y, rfl⟩ := hargs
  induction rs generalizing G with
  | nil => simp! only [List.map_nil, led, ledS]
  | cons r rs ih =>
    rw [List.map_cons]
    refine wf_cons ?_
    match r, G, h, ha with
    | .deed c n d, G, h, ha =>
      have := ih h ha.2
      simp! only [g__law_led_1, l__law_led_1, encR]
      exact this
    | .change s, [g], _, ha =>
      have := ih (G := [g, s]) (.inr rfl) ha.2
      simp! only [g__law_led_1, l__law_led_1, encR, encGroup, List.map_cons, List.map_nil] at this ⊢
      exact this
    | .change s, [g, g2], _, ha => exact absurd (show (2 : Nat) = 1 from ha.1) (by decide)
    | .close, [g], _, ha => exact absurd (show (1 : Nat) = 2 from ha.1) (by decide)
    | .close, [g, g2], _, ha =>
      have := ih (G := [g2]) (.inl rfl) ha.2
      simp! only [g__law_led_1, l__law_led_1, encR, encGroup, List.map_cons, List.map_nil] at this ⊢
      exact this

theorem plain_group (G : List (List Int)) : (encGroup G).plain = true := plain_tuple (plainAll_map fun s _ => plain_tuple (plainAll_ints s))
theorem depth_group (G : List (List Int)) : (encGroup G).depth ≤ 64 := Nat.le_trans (depth_tuple (depthAll_map (n := 2) fun s _ => depth_tuple (depthAll_ints' s))) (by decide)
theorem SetOk.len {s : List Int} (h : SetOk s) : s.length ≤ 6 := by
  obtain ⟨B, _, _, rfl⟩ := h
  exact bitSet_length B
theorem gAfter_ok {G G' : List (List Int)} {r : Row} (hG : ∀ s ∈ G, SetOk s) (hr : RowOk r) (e : gAfter G r = some G') : ∀ s ∈ G', SetOk s := by
  cases r with
  | deed c n d => cases e; exact hG
  | change s =>
    match G, e with
    | [g], e => cases e; exact all2 (hG g (by simp)) hr
  | close =>
    match G, e with
    | [g, g2], e => cases e; exact all1 (hG g2 (by simp))
theorem gBehind_ok : ∀ (rs : List Row) {G G' : List (List Int)}, (∀ s ∈ G, SetOk s) → (∀ r ∈ rs, RowOk r) → gBehind G rs = some G' → ∀ s ∈ G', SetOk s
  | [], G, G', h, _, e => by cases e; exact h
  | r :: rs, G, G', h, hr, e => by
    rw [gBehind] at e
    cases q : gAfter G r with
    | none => rw [q] at e; cases e
    | some G1 => rw [q] at e; exact gBehind_ok rs (gAfter_ok h (hr r List.mem_cons_self) q) (fun x m => hr x (List.mem_cons_of_mem _ m)) e

/-! ### the store, as two rising lists -/
def lt3 (p q : Int × Int × Int) : Bool := decide (p.1 < q.1 ∨ (p.1 = q.1 ∧ (p.2.1 < q.2.1 ∨ (p.2.1 = q.2.1 ∧ p.2.2 < q.2.2))))
theorem lt3_ok : LtOk lt3 := ⟨fun a => by simp [lt3], fun a b c h1 h2 => by simp only [lt3, decide_eq_true_eq] at *; omega, fun a b h1 h2 => by
  simp only [lt3, decide_eq_false_iff_not] at *
  exact Prod.ext (by omega) (Prod.ext (by omega) (by omega))⟩
theorem dataLt_T (a b : Int × Int × Int) : PySem.W.dataLt (encT a) (encT b) = lt3 a b := by
  have := PySem.W.dataLt_ints [a.1, a.2.1, a.2.2] [b.1, b.2.1, b.2.2]
  show PySem.W.dataLt (.tuple _) (.tuple _) = _
  rw [PySem.W.dataLt_tuple]
  refine this.trans ?_
  unfold lt3
  refine decide_eq_decide.mpr ?_
  simp [List.cons_lt_cons_iff]
theorem okS_T (ts : List (Int × Int × Int)) : okS (ts.map encT) = true := by
  unfold okS
  have hd : PyData.depthAll (ts.map encT) ≤ 60 := by
    have : PyData.depthAll (ts.map encT) ≤ 1 := depthAll_map fun c _ => by simp [encT, PyData.depth, PyData.depthAll]
    omega
  simp only [Bool.and_eq_true, Bool.or_eq_true, List.all_eq_true, decide_eq_true_eq]
  refine ⟨⟨fun x hx y hy => ?_, .inl fun x hx => ?_⟩, hd⟩
  · obtain ⟨c, _, rfl⟩ := List.mem_map.mp hx
    obtain ⟨e, _, rfl⟩ := List.mem_map.mp hy
    simp [encT, PySem.W.alike, PySem.W.alikeAll]
  · obtain ⟨c, _, rfl⟩ := List.mem_map.mp hx
    rfl
abbrev VS := List (Nat × Int)
abbrev TS3 := List (Int × Int × Int)
def RisV (vs : VS) : Prop := (vs.map (·.1)).Pairwise (· < ·)
def RisT (ts : TS3) : Prop := (ts.map (·.1)).Pairwise (· < ·)
theorem risV_lt {vs : VS} (h : RisV vs) : vs.Pairwise (fun a b => ltV2 a b = true) := by
  unfold RisV at h
  rw [List.pairwise_map] at h
  exact h.imp fun {a b} z => by unfold ltV2; exact decide_eq_true (.inl z)
theorem risT_lt {ts : TS3} (h : RisT ts) : ts.Pairwise (fun a b => lt3 a b = true) := by
  unfold RisT at h
  rw [List.pairwise_map] at h
  exact h.imp fun {a b} z => by unfold lt3; exact decide_eq_true (.inl z)
theorem risV_eq {vs ws : VS} (h1 : RisV vs) (h2 : RisV ws) (h : ∀ p, p ∈ vs ↔ p ∈ ws) : vs = ws :=
  (setU_eq ltV2_ok (risV_lt h1) fun _ => Iff.rfl).symm.trans (setU_eq ltV2_ok (risV_lt h2) fun z => (h z).symm)
theorem risT_eq {vs ws : TS3} (h1 : RisT vs) (h2 : RisT ws) (h : ∀ p, p ∈ vs ↔ p ∈ ws) : vs = ws :=
  (setU_eq lt3_ok (risT_lt h1) fun _ => Iff.rfl).symm.trans (setU_eq lt3_ok (risT_lt h2) fun z => (h z).symm)
theorem sorted_V (ws : VS) (nd : (ws.map (·.1)).Nodup) : ∃ ys : VS, pSorted [.list (ws.map encV)] = some (.fr (.list (ys.map encV))) ∧ ys.Perm ws ∧ RisV ys := by
  obtain ⟨ys, e, p, s⟩ := sort_lt ltV2_ok encV ws (okS_V2 _ _ ws) (fun a b => dataLt_V a.1 b.1 a.2 b.2)
  refine ⟨ys, e, p, ?_⟩
  have nd2 : (ys.map (·.1)).Nodup := (p.map (·.1)).nodup_iff.mpr nd
  unfold RisV
  rw [List.pairwise_map]
  refine (s.and (List.pairwise_map.mp nd2)).imp fun {a b} h => ?_
  have h1 := h.1
  have h2 := h.2
  simp only [ltV2, decide_eq_false_iff_not] at h1
  omega
theorem sorted_T (ws : TS3) (nd : (ws.map (·.1)).Nodup) : ∃ ys : TS3, okS (ws.map encT) = true ∧ sortD (ws.map encT) = ys.map encT ∧ ys.Perm ws ∧ RisT ys := by
  obtain ⟨ys, e, p, s⟩ := sort_lt lt3_ok encT ws (okS_T ws) dataLt_T
  have e2 : (if okS (ws.map encT) = true then some (Op.fr (.list (sortD (ws.map encT)))) else none) = some (.fr (.list (ys.map encT))) := e
  rw [if_pos (okS_T ws)] at e2
  refine ⟨ys, okS_T ws, by injection e2 with e2; injection e2 with e2; injection e2, p, ?_⟩
  have nd2 : (ys.map (·.1)).Nodup := (p.map (·.1)).nodup_iff.mpr nd
  unfold RisT
  rw [List.pairwise_map]
  refine (s.and (List.pairwise_map.mp nd2)).imp fun {a b} h => ?_
  have h1 := h.1
  have h2 := h.2
  simp only [lt3, decide_eq_false_iff_not] at h1
  omega
/-- put in its place -/
def insV (vs : VS) (p : Nat × Int) : VS := vs.filter (fun q => decide (q.1 < p.1)) ++ p :: vs.filter fun q => decide (p.1 < q.1)
def insT (ts : TS3) (p : Int × Int × Int) : TS3 := ts.filter (fun q => decide (q.1 < p.1)) ++ p :: ts.filter fun q => decide (p.1 < q.1)
theorem insV_mem {vs : VS} {p q : Nat × Int} : q ∈ insV vs p ↔ q = p ∨ (q ∈ vs ∧ q.1 ≠ p.1) := by
  unfold insV
  rw [List.mem_append, List.mem_cons, List.mem_filter, List.mem_filter, decide_eq_true_eq, decide_eq_true_eq]
  constructor
  · rintro (⟨h, z⟩ | h | ⟨h, z⟩)
    · exact .inr ⟨h, by omega⟩
    · exact .inl h
    · exact .inr ⟨h, by omega⟩
  · rintro (h | ⟨h, z⟩)
    · exact .inr (.inl h)
    · by_cases y : q.1 < p.1
      · exact .inl ⟨h, y⟩
      · exact .inr (.inr ⟨h, by omega⟩)
theorem insT_mem {ts : TS3} {p q : Int × Int × Int} : q ∈ insT ts p ↔ q = p ∨ (q ∈ ts ∧ q.1 ≠ p.1) := by
  unfold insT
  rw [List.mem_append, List.mem_cons, List.mem_filter, List.mem_filter, decide_eq_true_eq, decide_eq_true_eq]
  constructor
  · rintro (⟨h, z⟩ | h | ⟨h, z⟩)
    · exact .inr ⟨h, by omega⟩
    · exact .inl h
    · exact .inr ⟨h, by omega⟩
  · rintro (h | ⟨h, z⟩)
    · exact .inr (.inl h)
    · by_cases y : q.1 < p.1
      · exact .inl ⟨h, y⟩
      · exact .inr (.inr ⟨h, by omega⟩)
theorem insV_ris {vs : VS} (h : RisV vs) (p : Nat × Int) : RisV (insV vs p) := by
  unfold RisV at h ⊢
  unfold insV
  rw [List.pairwise_map] at h ⊢
  rw [List.pairwise_append, List.pairwise_cons]
  refine ⟨h.sublist List.filter_sublist, ⟨fun q m => by simpa using (List.mem_filter.mp m).2, h.sublist List.filter_sublist⟩, fun a ma b mb => ?_⟩
  have h1 : a.1 < p.1 := by simpa using (List.mem_filter.mp ma).2
  rcases List.mem_cons.mp mb with e | mb
  · rw [e]; exact h1
  · have h2 : p.1 < b.1 := by simpa using (List.mem_filter.mp mb).2
    omega
theorem insT_ris {ts : TS3} (h : RisT ts) (p : Int × Int × Int) : RisT (insT ts p) := by
  unfold RisT at h ⊢
  unfold insT
  rw [List.pairwise_map] at h ⊢
  rw [List.pairwise_append, List.pairwise_cons]
  refine ⟨h.sublist List.filter_sublist, ⟨fun q m => by simpa using (List.mem_filter.mp m).2, h.sublist List.filter_sublist⟩, fun a ma b mb => ?_⟩
  have h1 : a.1 < p.1 := by simpa using (List.mem_filter.mp ma).2
  rcases List.mem_cons.mp mb with e | mb
  · rw [e]; exact h1
  · have h2 : p.1 < b.1 := by simpa using (List.mem_filter.mp mb).2
    omega
theorem nodup_of_lt {α : Type} {f : α → Int} {l : List α} (h : (l.map f).Pairwise (· < ·)) : (l.map f).Nodup := h.imp fun z => by omega
theorem insV_len {vs : VS} (h : RisV vs) (p : Nat × Int) : (insV vs p).length ≤ vs.length + 1 := by
  have key : ∀ vs : VS, (vs.filter fun q => decide (q.1 < p.1)).length + (vs.filter fun q => decide (p.1 < q.1)).length ≤ vs.length := by
    intro vs
    induction vs with
    | nil => exact Nat.le_refl _
    | cons x vs ih =>
      rw [List.filter_cons, List.filter_cons]
      by_cases h1 : x.1 < p.1
      · have h2 : ¬ p.1 < x.1 := by omega
        rw [if_pos (decide_eq_true h1), if_neg (by simpa using h2)]
        simp only [List.length_cons]; omega
      · rw [if_neg (by simpa using h1)]
        split
        · simp only [List.length_cons]; omega
        · simp only [List.length_cons]; omega
  have := key vs
  unfold insV
  rw [List.length_append, List.length_cons]; omega
theorem insT_len {ts : TS3} (p : Int × Int × Int) : (insT ts p).length ≤ ts.length + 1 := by
  have key : ∀ vs : TS3, (vs.filter fun q => decide (q.1 < p.1)).length + (vs.filter fun q => decide (p.1 < q.1)).length ≤ vs.length := by
    intro vs
    induction vs with
    | nil => exact Nat.le_refl _
    | cons x vs ih =>
      rw [List.filter_cons, List.filter_cons]
      by_cases h1 : x.1 < p.1
      · have h2 : ¬ p.1 < x.1 := by omega
        rw [if_pos (decide_eq_true h1), if_neg (by simpa using h2)]
        simp only [List.length_cons]; omega
      · rw [if_neg (by simpa using h1)]
        split
        · simp only [List.length_cons]; omega
        · simp only [List.length_cons]; omega
  have := key ts
  unfold insT
  rw [List.length_append, List.length_cons]; omega

/-! ### what the program does with a row -/
def wth (vs : VS) (k : Nat) : Int := match vs.find? (fun p => p.1 == k) with
  | some p => p.2
  | none => 0
def lst (ts : TS3) (c : Int) : Option (Int × Int × Int) := ts.find? fun t => t.1 == c
def encL2 : Option (Int × Int × Int) → PyData
  | some t => .tuple [.int t.2.1, .int t.2.2]
  | none => .none
theorem worth_eq (S : Store) (k : Nat) : f_worth [.val (encS S), .val (encL k)] = .ok (.v (.int (wth S.1 k))) [.val (encS S), .val (encL k)] := by
  refine eq_fe ?_
  simp! only [fe_worth, b_worth, encS]
  generalize hE : PyData.tuple [.tuple (S.1.map encV), .tuple (S.2.map encT)] = E
  refine wf_inv encV S.1 (fun pre ρ => (∀ x ∈ pre, (x.1 == k) = false) ∧ ρ = [.val E, .val (encL k), .no, .no]) ?_ ?_ ⟨(fun _ m => nomatch m), rfl⟩
  · rintro pre p post hx ρ ⟨hp, rfl⟩
    simp! only [g_worth_1, l_worth_1, encV, zq63]
    cases h : p.1 == k with
    | true =>
      have : wth S.1 k = p.2 := by
        unfold wth
        rw [← hx, List.find?_append, List.find?_eq_none.mpr (fun x m => by rw [hp x m]; exact Bool.false_ne_true), List.find?_cons_of_pos (p := fun p : Nat × Int => p.1 == k) h]; rfl
      simp! only [this]
    | false =>
      simp! only [id_eq]
      intro x m
      rcases List.mem_append.mp m with m | m
      · exact hp x m
      · rw [List.mem_singleton.mp m]; exact h
  · rintro ρ ⟨hp, rfl⟩
    have : wth S.1 k = 0 := by
      unfold wth
      rw [List.find?_eq_none.mpr fun x m => by rw [hp x m]; exact Bool.false_ne_true]
    simp! only [this]
theorem last_eq (S : Store) (c : Int) : f_last_of [.val (encS S), .val (.int c)] = .ok (.v (encL2 (lst S.2 c))) [.val (encS S), .val (.int c)] := by
  refine eq_fe ?_
  simp! only [fe_last_of, b_last_of, encS]
  generalize hE : PyData.tuple [.tuple (S.1.map encV), .tuple (S.2.map encT)] = E
  refine wf_inv encT S.2 (fun pre ρ => (∀ x ∈ pre, (x.1 == c) = false) ∧ ρ = [.val E, .val (.int c), .no, .no, .no]) ?_ ?_ ⟨(fun _ m => nomatch m), rfl⟩
  · rintro pre p post hx ρ ⟨hp, rfl⟩
    simp! only [g_last_of_1, l_last_of_1, encT]
    cases h : p.1 == c with
    | true =>
      have : lst S.2 c = some p := by
        unfold lst
        rw [← hx, List.find?_append, List.find?_eq_none.mpr (fun x m => by rw [hp x m]; exact Bool.false_ne_true), List.find?_cons_of_pos (p := fun p : Int × Int × Int => p.1 == c) h]; rfl
      simp! only [this, encL2]
    | false =>
      simp! only [id_eq]
      intro x m
      rcases List.mem_append.mp m with m | m
      · exact hp x m
      · rw [List.mem_singleton.mp m]; exact h
  · rintro ρ ⟨hp, rfl⟩
    have : lst S.2 c = none := List.find?_eq_none.mpr fun x m => by rw [hp x m]; exact Bool.false_ne_true
    simp! only [this, encL2]
theorem nodup_ltN {l : List Nat} (h : l.Pairwise (· < ·)) : l.Nodup := h.imp fun z => by omega
theorem nodup_ltI {l : List Int} (h : l.Pairwise (· < ·)) : l.Nodup := h.imp fun z => by omega
theorem with_V {vs : VS} (h : RisV vs) (hl : vs.length ≤ 500) (p : Nat × Int) : f_with_one [.val (.tuple (vs.map encV)), .val (encV p)] = .ok (.v (.tuple ((insV vs p).map encV))) [.val (.tuple (vs.map encV)), .val (encV p)] := by
  refine eq_fe ?_
  have e0 : ∀ Q : Op → En → Prop, ∀ ρ, OPK (pIx (encV p) (.int 0)) ρ Q = Q (.v (encL p.1)) ρ := fun Q ρ => by unfold encV; simp! only [id_eq]
  generalize hE : encV p = E at e0 ⊢
  simp! only [fe_with_one, b_with_one]
  generalize hE2 : PyData.tuple (vs.map encV) = E2
  refine lcs_filter encV (fun q => !(q.1 == p.1)) encV vs (by omega) (fun q _ => ?_) ?_
  · have e1 : ∀ Q : Op → En → Prop, ∀ ρ, OPK (pIx (encV q) (.int 0)) ρ Q = Q (.v (encL q.1)) ρ := fun Q ρ => by unfold encV; simp! only [id_eq]
    simp! only [cg_with_one_1, ct_with_one_1, ce_with_one_1, e0, e1, zq62]
    cases q.1 == p.1 with
    | true => simp! only [Bool.not_true, Bool.false_eq_true, if_false]
    | false => simp! only [Bool.not_false, if_true]
  · have hz : ((vs.filter fun q => !(q.1 == p.1)).map encV).length + 1 ≤ sizeLine := by
      have := List.length_filter_le (fun q : Nat × Int => !(q.1 == p.1)) vs
      rw [List.length_map]; exact small6 (by omega)
    have eA : (vs.filter fun q => !(q.1 == p.1)).map encV ++ [E] = (vs.filter (fun q => !(q.1 == p.1)) ++ [p]).map encV := by rw [List.map_append, ← hE]; rfl
    obtain ⟨ys, es, pm, rs⟩ := sorted_V (vs.filter (fun q => !(q.1 == p.1)) ++ [p]) (by
      rw [List.map_append, List.nodup_append]
      refine ⟨nodup_ltN ((show (vs.map (·.1)).Pairwise (· < ·) from h).sublist (List.filter_sublist.map _)), by simp, fun a ma b mb e => ?_⟩
      have hb : b = p.1 := by simpa using mb
      obtain ⟨q, mq, eq⟩ := List.mem_map.mp ma
      have h2 := (List.mem_filter.mp mq).2
      have h3 : q.1 = p.1 := eq.trans (e.trans hb)
      rw [h3] at h2; simp at h2)
    have ey : ys = insV vs p := risV_eq rs (insV_ris h p) fun q => by
      rw [pm.mem_iff, insV_mem, List.mem_append, List.mem_filter, List.mem_singleton]
      constructor
      · rintro (⟨m, z⟩ | m)
        · exact .inr ⟨m, by simpa using z⟩
        · exact .inl m
      · rintro (m | ⟨m, z⟩)
        · exact .inr m
        · exact .inl ⟨m, by simpa using z⟩
    rw [ey] at es
    simp! only [hz, eA, es]
theorem with_T {ts : TS3} (h : RisT ts) (hl : ts.length ≤ 500) (p : Int × Int × Int) : f_with_one [.val (.tuple (ts.map encT)), .val (encT p)] = .ok (.v (.tuple ((insT ts p).map encT))) [.val (.tuple (ts.map encT)), .val (encT p)] := by
  refine eq_fe ?_
  have e0 : ∀ Q : Op → En → Prop, ∀ ρ, OPK (pIx (encT p) (.int 0)) ρ Q = Q (.v (.int p.1)) ρ := fun Q ρ => by unfold encT; simp! only [id_eq]
  generalize hE : encT p = E at e0 ⊢
  simp! only [fe_with_one, b_with_one]
  generalize hE2 : PyData.tuple (ts.map encT) = E2
  refine lcs_filter encT (fun q => !(q.1 == p.1)) encT ts (by omega) (fun q _ => ?_) ?_
  · have e1 : ∀ Q : Op → En → Prop, ∀ ρ, OPK (pIx (encT q) (.int 0)) ρ Q = Q (.v (.int q.1)) ρ := fun Q ρ => by unfold encT; simp! only [id_eq]
    simp! only [cg_with_one_1, ct_with_one_1, ce_with_one_1, e0, e1]
    cases q.1 == p.1 with
    | true => simp! only [Bool.not_true, Bool.false_eq_true, if_false]
    | false => simp! only [Bool.not_false, if_true]
  · have hz : ((ts.filter fun q => !(q.1 == p.1)).map encT).length + 1 ≤ sizeLine := by
      have := List.length_filter_le (fun q : Int × Int × Int => !(q.1 == p.1)) ts
      rw [List.length_map]; exact small6 (by omega)
    have eA : (ts.filter fun q => !(q.1 == p.1)).map encT ++ [E] = (ts.filter (fun q => !(q.1 == p.1)) ++ [p]).map encT := by rw [List.map_append, ← hE]; rfl
    obtain ⟨ys, ok, es, pm, rs⟩ := sorted_T (ts.filter (fun q => !(q.1 == p.1)) ++ [p]) (by
      rw [List.map_append, List.nodup_append]
      refine ⟨nodup_ltI ((show (ts.map (·.1)).Pairwise (· < ·) from h).sublist (List.filter_sublist.map _)), by simp, fun a ma b mb e => ?_⟩
      have hb : b = p.1 := by simpa using mb
      obtain ⟨q, mq, eq⟩ := List.mem_map.mp ma
      have h2 := (List.mem_filter.mp mq).2
      have h3 : q.1 = p.1 := eq.trans (e.trans hb)
      rw [h3] at h2; simp at h2)
    have ey : ys = insT ts p := risT_eq rs (insT_ris h p) fun q => by
      rw [pm.mem_iff, insT_mem, List.mem_append, List.mem_filter, List.mem_singleton]
      constructor
      · rintro (⟨m, z⟩ | m)
        · exact .inr ⟨m, by simpa using z⟩
        · exact .inl m
      · rintro (m | ⟨m, z⟩)
        · exact .inr m
        · exact .inl ⟨m, by simpa using z⟩
    have es2 : pSorted [.list ((ts.filter (fun q => !(q.1 == p.1)) ++ [p]).map encT)] = some (.fr (.list ((insT ts p).map encT))) := by
      show (if okS ((ts.filter (fun q => !(q.1 == p.1)) ++ [p]).map encT) = true then some (Op.fr (.list (sortD ((ts.filter (fun q => !(q.1 == p.1)) ++ [p]).map encT)))) else none) = _
      rw [if_pos ok, es, ey]
    simp! only [hz, eA, es2]
def blk (ts : TS3) (c n : Int) : Bool := match lst ts c with
  | some t => decide (n ≤ t.2.1)
  | none => false
def dn (S : Store) : Row → Store
  | .deed c n d => if blk S.2 c n = true then S else match d with
    | .get k => (S.1, insT S.2 (c, n, wth S.1 k))
    | .put k v => (insV S.1 (k, v), insT S.2 (c, n, wth S.1 k))
    | .add k v => (insV S.1 (k, wth S.1 k + v), insT S.2 (c, n, wth S.1 k + v))
  | _ => S
structure SOk (S : Store) (n : Nat) : Prop where
  v : RisV S.1
  t : RisT S.2
  lv : S.1.length ≤ n
  lt : S.2.length ≤ n
theorem dn_ok {S : Store} {n : Nat} (h : SOk S n) (r : Row) : SOk (dn S r) (n + 1) := by
  have h0 : SOk S (n + 1) := ⟨h.v, h.t, by have := h.lv; omega, by have := h.lt; omega⟩
  cases r with
  | change s => exact h0
  | close => exact h0
  | deed c m d =>
    unfold dn
    dsimp only
    split
    · exact h0
    · cases d with
      | get k => exact ⟨h.v, insT_ris h.t _, h0.lv, Nat.le_trans (insT_len _) (Nat.succ_le_succ h.lt)⟩
      | put k v => exact ⟨insV_ris h.v _, insT_ris h.t _, Nat.le_trans (insV_len h.v _) (Nat.succ_le_succ h.lv), Nat.le_trans (insT_len _) (Nat.succ_le_succ h.lt)⟩
      | add k v => exact ⟨insV_ris h.v _, insT_ris h.t _, Nat.le_trans (insV_len h.v _) (Nat.succ_le_succ h.lv), Nat.le_trans (insT_len _) (Nat.succ_le_succ h.lt)⟩
theorem done_eq {S : Store} {n : Nat} (h : SOk S n) (hn : n ≤ 400) (r : Row) : f_done [.val (encS S), .val (encR r)] = .ok (.v (encS (dn S r))) [.val (encS S), .val (encR r)] := by
  refine eq_fe ?_
  cases r with
  | change s => simp! only [fe_done, b_done, encR, dn]
  | close => simp! only [fe_done, b_done, encR, dn]
  | deed c m d =>
    have hl := last_eq S c
    have hv := fun p => with_V h.v (by have := h.lv; omega) p
    have ht := fun p => with_T h.t (by have := h.lt; omega) p
    have e0 : ∀ Q : Op → En → Prop, ∀ ρ, OPK (pIx (encS S) (.int 0)) ρ Q = Q (.v (.tuple (S.1.map encV))) ρ := fun Q ρ => by unfold encS; simp! only [id_eq]
    have e1 : ∀ Q : Op → En → Prop, ∀ ρ, OPK (pIx (encS S) (.int 1)) ρ Q = Q (.v (.tuple (S.2.map encT))) ρ := fun Q ρ => by unfold encS; simp! only [id_eq]
    have eD : ∀ T : Store, encS T = .tuple [.tuple (T.1.map encV), .tuple (T.2.map encT)] := fun _ => rfl
    have ev : ∀ (k : Nat) (x : Int), PyData.tuple [encL k, .int x] = encV (k, x) := fun _ _ => rfl
    have et : ∀ (a b x : Int), PyData.tuple [.int a, .int b, .int x] = encT (a, b, x) := fun _ _ _ => rfl
    cases hq : lst S.2 c with
    | none =>
      have hbl : blk S.2 c m = false := by unfold blk; rw [hq]
      rw [hq] at hl
      cases d with
      | get k =>
        have hw := worth_eq S k
        have hd : encS (dn S (.deed c m (.get k))) = .tuple [.tuple (S.1.map encV), .tuple ((insT S.2 (c, m, wth S.1 k)).map encT)] := by
          unfold dn; dsimp only; rw [if_neg (by rw [hbl]; exact Bool.false_ne_true)]; rfl
        rw [hd]
        generalize encS S = E at hl hw e0 e1 ⊢
        simp! only [fe_done, b_done, encR, encD, fe_of hl, encL2, fe_of hw, e0, e1, ev, et, fe_of (ht _)]
      | put k v =>
        have hw := worth_eq S k
        have hd : encS (dn S (.deed c m (.put k v))) = .tuple [.tuple ((insV S.1 (k, v)).map encV), .tuple ((insT S.2 (c, m, wth S.1 k)).map encT)] := by
          unfold dn; dsimp only; rw [if_neg (by rw [hbl]; exact Bool.false_ne_true)]; rfl
        rw [hd]
        generalize encS S = E at hl hw e0 e1 ⊢
        simp! only [fe_done, b_done, encR, encD, fe_of hl, encL2, fe_of hw, e0, e1, ev, et, fe_of (hv (k, v)), fe_of (ht _)]
      | add k v =>
        have hw := worth_eq S k
        have hd : encS (dn S (.deed c m (.add k v))) = .tuple [.tuple ((insV S.1 (k, wth S.1 k + v)).map encV), .tuple ((insT S.2 (c, m, wth S.1 k + v)).map encT)] := by
          unfold dn; dsimp only; rw [if_neg (by rw [hbl]; exact Bool.false_ne_true)]; rfl
        rw [hd]
        generalize encS S = E at hl hw e0 e1 ⊢
        simp! only [fe_done, b_done, encR, encD, fe_of hl, encL2, fe_of hw, e0, e1, ev, et, fe_of (hv (k, wth S.1 k + v)), fe_of (ht _)]
    | some t =>
      rw [hq] at hl
      by_cases hm : m ≤ t.2.1
      · have hbl : blk S.2 c m = true := by unfold blk; rw [hq]; exact decide_eq_true hm
        have hd : dn S (.deed c m d) = S := by unfold dn; dsimp only; rw [if_pos hbl]
        rw [hd]
        generalize encS S = E at hl e0 e1 ⊢
        simp! only [fe_done, b_done, encR, fe_of hl, encL2, hm, decide_true]
      · have hbl : blk S.2 c m = false := by unfold blk; rw [hq]; exact decide_eq_false hm
        cases d with
        | get k =>
          have hw := worth_eq S k
          have hd : encS (dn S (.deed c m (.get k))) = .tuple [.tuple (S.1.map encV), .tuple ((insT S.2 (c, m, wth S.1 k)).map encT)] := by
            unfold dn; dsimp only; rw [if_neg (by rw [hbl]; exact Bool.false_ne_true)]; rfl
          rw [hd]
          generalize encS S = E at hl hw e0 e1 ⊢
          simp! only [fe_done, b_done, encR, encD, fe_of hl, encL2, hm, decide_false, fe_of hw, e0, e1, ev, et, fe_of (ht _)]
        | put k v =>
          have hw := worth_eq S k
          have hd : encS (dn S (.deed c m (.put k v))) = .tuple [.tuple ((insV S.1 (k, v)).map encV), .tuple ((insT S.2 (c, m, wth S.1 k)).map encT)] := by
            unfold dn; dsimp only; rw [if_neg (by rw [hbl]; exact Bool.false_ne_true)]; rfl
          rw [hd]
          generalize encS S = E at hl hw e0 e1 ⊢
          simp! only [fe_done, b_done, encR, encD, fe_of hl, encL2, hm, decide_false, fe_of hw, e0, e1, ev, et, fe_of (hv (k, v)), fe_of (ht _)]
        | add k v =>
          have hw := worth_eq S k
          have hd : encS (dn S (.deed c m (.add k v))) = .tuple [.tuple ((insV S.1 (k, wth S.1 k + v)).map encV), .tuple ((insT S.2 (c, m, wth S.1 k + v)).map encT)] := by
            unfold dn; dsimp only; rw [if_neg (by rw [hbl]; exact Bool.false_ne_true)]; rfl
          rw [hd]
          generalize encS S = E at hl hw e0 e1 ⊢
          simp! only [fe_done, b_done, encR, encD, fe_of hl, encL2, hm, decide_false, fe_of hw, e0, e1, ev, et, fe_of (hv (k, wth S.1 k + v)), fe_of (ht _)]
theorem fold_ok {n : Nat} : ∀ (rs : List Row) {S : Store} {m : Nat}, SOk S m → m + rs.length ≤ n → SOk (rs.foldl dn S) n
  | [], S, m, h, hl => ⟨h.v, h.t, Nat.le_trans h.lv (by simpa using hl), Nat.le_trans h.lt (by simpa using hl)⟩
  | r :: rs, S, m, h, hl => by
    rw [List.foldl_cons]
    exact fold_ok rs (dn_ok h r) (by rw [List.length_cons] at hl; omega)

theorem all_done_eq {S : Store} {n : Nat} (h : SOk S n) (rs : List Row) (hn : n + rs.length ≤ 400) : f_all_done [.val (encS S), .val (.tuple (rs.map encR))] = .ok (.v (encS (rs.foldl dn S))) [.val (encS S), .val (.tuple (rs.map encR))] := by
  refine eq_fe ?_
  simp! only [fe_all_done, b_all_done]
  generalize hE : PyData.tuple (rs.map encR) = E
  generalize hE2 : encS S = E2
  refine wf_inv encR rs (fun pre ρ => ρ = [.val (encS (pre.foldl dn S)), .val E, .no]) ?_ ?_ (by rw [← hE2]; rfl)
  · rintro pre r post hx ρ rfl
    have hp : n + pre.length ≤ 400 := by
      have : pre.length ≤ rs.length := by rw [← hx, List.length_append]; omega
      omega
    have hd := done_eq (fold_ok pre h (Nat.le_refl _)) hp r
    simp! only [g_all_done_1, l_all_done_1, fe_of hd, List.foldl_append, List.foldl_cons, List.foldl_nil]
  · rintro ρ rfl
    simp! only [id_eq]

/-! ### a store's parts, as dicts with letter keys and with number keys -/
def encDL (ps : VS) : List (PyData × PyData) := ps.map fun p => (encL p.1, .int p.2)
def encDT (ts : TS3) : List (PyData × PyData) := ts.map fun t => (.int t.1, .tuple [.int t.2.1, .int t.2.2])
theorem eqK_LL (a b : Nat) : eqK (encL a) (encL b) = (a == b) := by
  show ((⟨#[a]⟩ : Str) == ⟨#[b]⟩) = (a == b)
  by_cases h : a = b
  · subst h; rw [beq_self_eq_true, beq_self_eq_true]
  · rw [beq_eq_false_iff_ne.mpr h]
    refine beq_eq_false_iff_ne.mpr fun e => h ?_
    injection e with e
    injection e with e
    injection e
theorem eqK_II (a b : Int) : eqK (.int a) (.int b) = (a == b) := rfl
theorem nestD_DL (ps : VS) : nestD (encDL ps) = false := by cases ps <;> rfl
theorem nestD_DT (ts : TS3) : nestD (encDT ts) = false := by cases ts <;> rfl
theorem lookD_DL (ps : VS) (k : Nat) : lookD (encDL ps) (encL k) = (ps.find? fun p => p.1 == k).map fun p => .int p.2 := by
  unfold lookD encDL
  rw [List.find?_map, Option.map_map]
  have : ((fun p : PyData × PyData => eqK p.1 (encL k)) ∘ fun p : Nat × Int => (encL p.1, PyData.int p.2)) = fun p => p.1 == k := funext fun p => eqK_LL _ _
  rw [this]; rfl
theorem lookD_DT (ts : TS3) (c : Int) : lookD (encDT ts) (.int c) = (lst ts c).map fun t => .tuple [.int t.2.1, .int t.2.2] := by
  unfold lookD encDT lst
  rw [List.find?_map, Option.map_map]
  have : ((fun p : PyData × PyData => eqK p.1 (.int c)) ∘ fun t : Int × Int × Int => (PyData.int t.1, PyData.tuple [.int t.2.1, .int t.2.2])) = fun t => t.1 == c := funext fun p => eqK_II _ _
  rw [this]; rfl
theorem getL (ps : VS) (k : Nat) : pGet (.dict (encDL ps)) (encL k) (.int 0) = some (.v (.int (wth ps k))) := by
  have : pGet (.dict (encDL ps)) (encL k) (.int 0) = some (.v ((lookD (encDL ps) (encL k)).getD (.int 0))) := zq78 (nestD_DL ps)
  rw [this, lookD_DL]
  unfold wth
  cases ps.find? fun p => p.1 == k <;> rfl
/-- d[k] = v -/
def pV (ps : VS) (p : Nat × Int) : VS := if ps.any (fun q => q.1 == p.1) = true then ps.map (fun q => if q.1 = p.1 then p else q) else ps ++ [p]
def pT (ts : TS3) (t : Int × Int × Int) : TS3 := if ts.any (fun q => q.1 == t.1) = true then ts.map (fun q => if q.1 = t.1 then t else q) else ts ++ [t]
theorem putD_DL (ps : VS) (k : Nat) (v : Int) : putD (encDL ps) (encL k) (.int v) = encDL (pV ps (k, v)) := by
  unfold putD pV encDL
  have e : ((ps.map fun p => (encL p.1, PyData.int p.2)).any fun p => eqK p.1 (encL k)) = ps.any fun p => p.1 == k := by
    rw [List.any_map]
    exact congrArg (fun f => ps.any f) (funext fun p => eqK_LL _ _)
  rw [e]
  split
  · rw [List.map_map, List.map_map]
    refine List.map_congr_left fun p _ => ?_
    simp only [Function.comp, eqK_LL, beq_iff_eq]
    by_cases h : p.1 = k
    · rw [if_pos h, if_pos h, h]
    · rw [if_neg h, if_neg h]
  · rw [List.map_append]; rfl
theorem putD_DT (ts : TS3) (c n a : Int) : putD (encDT ts) (.int c) (.tuple [.int n, .int a]) = encDT (pT ts (c, n, a)) := by
  unfold putD pT encDT
  have e : ((ts.map fun t => (PyData.int t.1, PyData.tuple [.int t.2.1, .int t.2.2])).any fun p => eqK p.1 (.int c)) = ts.any fun t => t.1 == c := by
    rw [List.any_map]
    exact congrArg (fun f => ts.any f) (funext fun p => eqK_II _ _)
  rw [e]
  split
  · rw [List.map_map, List.map_map]
    refine List.map_congr_left fun p _ => ?_
    simp only [Function.comp, eqK_II, beq_iff_eq]
    by_cases h : p.1 = c
    · rw [if_pos h, if_pos h, h]
    · rw [if_neg h, if_neg h]
  · rw [List.map_append]; rfl
theorem putL {ps : VS} {k : Nat} {v : Int} (h : ps.length < 1000) : putP (encL k) (.int v) (encDL ps) = some (encDL (pV ps (k, v))) := by
  rw [← putD_DL]
  exact putP_s (by unfold encDL; rw [List.length_map]; exact h)
theorem putI {ts : TS3} {c n a : Int} (h : ts.length < 1000) : putP (.int c) (.tuple [.int n, .int a]) (encDT ts) = some (encDT (pT ts (c, n, a))) := by
  rw [← putD_DT]
  exact putP_i (by unfold encDT; rw [List.length_map]; exact h)
/-- keys once each; the same things -/
def NdV (ps : VS) : Prop := (ps.map (·.1)).Nodup
def NdT (ts : TS3) : Prop := (ts.map (·.1)).Nodup
theorem find_key {α κ : Type} [BEq κ] [LawfulBEq κ] (f : α → κ) : ∀ {l : List α} {x : α}, (l.map f).Nodup → x ∈ l → l.find? (fun y => f y == f x) = some x
  | y :: l, x, h, m => by
    rw [List.map_cons, List.nodup_cons] at h
    rw [List.find?_cons]
    cases hq : f y == f x with
    | true =>
      rcases List.mem_cons.mp m with e | m
      · rw [e]
      · exact absurd (List.mem_map.mpr ⟨x, m, (eq_of_beq hq).symm⟩) h.1
    | false =>
      rcases List.mem_cons.mp m with e | m
      · rw [e] at hq; simp at hq
      · exact find_key f h.2 m
theorem find_same {α κ : Type} [BEq κ] [LawfulBEq κ] (f : α → κ) {l m : List α} (h1 : (l.map f).Nodup) (h2 : (m.map f).Nodup) (h : ∀ x, x ∈ l ↔ x ∈ m) (k : κ) : l.find? (fun y => f y == k) = m.find? (fun y => f y == k) := by
  cases e : l.find? fun y => f y == k with
  | none =>
    refine (List.find?_eq_none.mpr fun x mx => ?_).symm
    exact List.find?_eq_none.mp e x ((h x).mpr mx)
  | some x =>
    have hk : f x = k := by have z := List.find?_some e; exact eq_of_beq z
    have mx := (h x).mp (List.mem_of_find?_eq_some e)
    have := find_key f h2 mx
    rw [← hk]; exact this.symm
theorem pV_mem {ps : VS} (h : NdV ps) {p q : Nat × Int} : q ∈ pV ps p ↔ q = p ∨ (q ∈ ps ∧ q.1 ≠ p.1) := by
  unfold pV
  split
  · rename_i ha
    obtain ⟨r, mr, er⟩ := List.any_eq_true.mp ha
    have er := eq_of_beq er
    rw [List.mem_map]
    constructor
    · rintro ⟨x, mx, rfl⟩
      by_cases hx : x.1 = p.1
      · rw [if_pos hx]; exact .inl rfl
      · rw [if_neg hx]; exact .inr ⟨mx, hx⟩
    · rintro (e | ⟨m, z⟩)
      · exact ⟨r, mr, by rw [if_pos er, e]⟩
      · exact ⟨q, m, if_neg z⟩
  · rename_i ha
    rw [List.mem_append, List.mem_singleton]
    constructor
    · rintro (m | e)
      · refine .inr ⟨m, fun z => ha (List.any_eq_true.mpr ⟨q, m, by rw [z]; exact beq_self_eq_true _⟩)⟩
      · exact .inl e
    · rintro (e | ⟨m, _⟩)
      · exact .inr e
      · exact .inl m
theorem pT_mem {ts : TS3} (h : NdT ts) {p q : Int × Int × Int} : q ∈ pT ts p ↔ q = p ∨ (q ∈ ts ∧ q.1 ≠ p.1) := by
  unfold pT
  split
  · rename_i ha
    obtain ⟨r, mr, er⟩ := List.any_eq_true.mp ha
    have er := eq_of_beq er
    rw [List.mem_map]
    constructor
    · rintro ⟨x, mx, rfl⟩
      by_cases hx : x.1 = p.1
      · rw [if_pos hx]; exact .inl rfl
      · rw [if_neg hx]; exact .inr ⟨mx, hx⟩
    · rintro (e | ⟨m, z⟩)
      · exact ⟨r, mr, by rw [if_pos er, e]⟩
      · exact ⟨q, m, if_neg z⟩
  · rename_i ha
    rw [List.mem_append, List.mem_singleton]
    constructor
    · rintro (m | e)
      · refine .inr ⟨m, fun z => ha (List.any_eq_true.mpr ⟨q, m, by rw [z]; exact beq_self_eq_true _⟩)⟩
      · exact .inl e
    · rintro (e | ⟨m, _⟩)
      · exact .inr e
      · exact .inl m
theorem pV_nd {ps : VS} (h : NdV ps) (p : Nat × Int) : NdV (pV ps p) := by
  unfold NdV pV at *
  split
  · rw [List.map_map]
    have : ps.map ((·.1) ∘ fun q => if q.1 = p.1 then p else q) = ps.map (·.1) := List.map_congr_left fun q _ => by
      simp only [Function.comp]; split <;> simp_all
    rw [this]; exact h
  · rename_i hn
    rw [List.map_append, List.nodup_append]
    refine ⟨h, List.pairwise_singleton _ _, fun a ma b mb e => hn ?_⟩
    subst e
    have mb : a = p.1 := by simpa using mb
    subst mb
    obtain ⟨q, mq, e⟩ := List.mem_map.mp ma
    exact List.any_eq_true.mpr ⟨q, mq, by simp [e]⟩
theorem pT_nd {ts : TS3} (h : NdT ts) (p : Int × Int × Int) : NdT (pT ts p) := by
  unfold NdT pT at *
  split
  · rw [List.map_map]
    have : ts.map ((·.1) ∘ fun q => if q.1 = p.1 then p else q) = ts.map (·.1) := List.map_congr_left fun q _ => by
      simp only [Function.comp]; split <;> simp_all
    rw [this]; exact h
  · rename_i hn
    rw [List.map_append, List.nodup_append]
    refine ⟨h, List.pairwise_singleton _ _, fun a ma b mb e => hn ?_⟩
    subst e
    have mb : a = p.1 := by simpa using mb
    subst mb
    obtain ⟨q, mq, e⟩ := List.mem_map.mp ma
    exact List.any_eq_true.mpr ⟨q, mq, by simp [e]⟩
theorem pV_len (ps : VS) (p : Nat × Int) : (pV ps p).length ≤ ps.length + 1 := by
  unfold pV; split
  · rw [List.length_map]; omega
  · rw [List.length_append]; exact Nat.le_refl _
theorem pT_len (ts : TS3) (p : Int × Int × Int) : (pT ts p).length ≤ ts.length + 1 := by
  unfold pT; split
  · rw [List.length_map]; omega
  · rw [List.length_append]; exact Nat.le_refl _
/-- dicts that hold what the store holds -/
structure Sm (ps : VS) (ts : TS3) (S : Store) : Prop where
  nv : NdV ps
  nt : NdT ts
  v : ∀ p, p ∈ ps ↔ p ∈ S.1
  t : ∀ p, p ∈ ts ↔ p ∈ S.2
  lv : ps.length ≤ 600
  lt : ts.length ≤ 600
theorem Sm.wth {ps : VS} {ts : TS3} {S : Store} {n : Nat} (h : Sm ps ts S) (ok : SOk S n) (k : Nat) : wth ps k = wth S.1 k := by
  show (match ps.find? (fun p => p.1 == k) with | some p => p.2 | none => 0) = (match S.1.find? (fun p => p.1 == k) with | some p => p.2 | none => 0)
  rw [find_same (fun p : Nat × Int => p.1) h.nv (nodup_ltN ok.v) h.v k]
theorem Sm.lst {ps : VS} {ts : TS3} {S : Store} {n : Nat} (h : Sm ps ts S) (ok : SOk S n) (c : Int) : lst ts c = lst S.2 c :=
  find_same (fun t : Int × Int × Int => t.1) h.nt (nodup_ltI ok.t) h.t c
theorem Sm.self {S : Store} {n : Nat} (ok : SOk S n) (hn : n ≤ 600) : Sm S.1 S.2 S := ⟨nodup_ltN ok.v, nodup_ltI ok.t, fun _ => Iff.rfl, fun _ => Iff.rfl, by have := ok.lv; omega, by have := ok.lt; omega⟩
/-- what the law's own deed does -/
def one1 (ps : VS) (ts : TS3) : Row → VS × TS3
  | .deed c n d => if blk ts c n = true then (ps, ts) else match d with
    | .get k => (ps, pT ts (c, n, wth ps k))
    | .put k v => (pV ps (k, v), pT ts (c, n, wth ps k))
    | .add k v => (pV ps (k, wth ps k + v), pT ts (c, n, wth ps k + v))
  | _ => (ps, ts)
theorem one1_len (ps : VS) (ts : TS3) (r : Row) : (one1 ps ts r).1.length ≤ ps.length + 1 ∧ (one1 ps ts r).2.length ≤ ts.length + 1 := by
  cases r with
  | change s => exact ⟨Nat.le_succ _, Nat.le_succ _⟩
  | close => exact ⟨Nat.le_succ _, Nat.le_succ _⟩
  | deed c n d =>
    unfold one1
    dsimp only
    split
    · exact ⟨Nat.le_succ _, Nat.le_succ _⟩
    · cases d with
      | get k => exact ⟨Nat.le_succ _, pT_len _ _⟩
      | put k v => exact ⟨pV_len _ _, pT_len _ _⟩
      | add k v => exact ⟨pV_len _ _, pT_len _ _⟩
theorem Sm.one {ps : VS} {ts : TS3} {S : Store} {n : Nat} (h : Sm ps ts S) (ok : SOk S n) (r : Row) (hl : ps.length < 600 ∧ ts.length < 600) : Sm (one1 ps ts r).1 (one1 ps ts r).2 (dn S r) := by
  have hlen := one1_len ps ts r
  cases r with
  | change s => exact h
  | close => exact h
  | deed c m d =>
    have eb : blk ts c m = blk S.2 c m := by unfold blk; rw [h.lst ok c]
    unfold one1 dn at *
    dsimp only at *
    rw [eb] at hlen ⊢
    split
    · exact h
    · rename_i hb
      rw [if_neg hb] at hlen
      cases d with
      | get k => exact ⟨h.nv, pT_nd h.nt _, h.v, fun p => by rw [pT_mem h.nt, insT_mem, h.t, h.wth ok k], h.lv, by have := hlen.2; dsimp only at this ⊢; omega⟩
      | put k v => exact ⟨pV_nd h.nv _, pT_nd h.nt _, fun p => by rw [pV_mem h.nv, insV_mem, h.v], fun p => by rw [pT_mem h.nt, insT_mem, h.t, h.wth ok k], by have := hlen.1; dsimp only at this ⊢; omega, by have := hlen.2; dsimp only at this ⊢; omega⟩
      | add k v => exact ⟨pV_nd h.nv _, pT_nd h.nt _, fun p => by rw [pV_mem h.nv, insV_mem, h.v, h.wth ok k], fun p => by rw [pT_mem h.nt, insT_mem, h.t, h.wth ok k], by have := hlen.1; dsimp only at this ⊢; omega, by have := hlen.2; dsimp only at this ⊢; omega⟩
theorem one_done_eq {ps : VS} {ts : TS3} (hl : ps.length < 1000 ∧ ts.length < 1000) (r : Row) : f__law_one_done [.inn (.dict (encDL ps)), .inn (.dict (encDT ts)), .val (encR r)] = .ok (.v .none) [.inn (.dict (encDL (one1 ps ts r).1)), .inn (.dict (encDT (one1 ps ts r).2)), .val (encR r)] := by
  refine eq_fe ?_
  cases r with
  | change s => simp! only [fe__law_one_done, b__law_one_done, encR, one1]
  | close => simp! only [fe__law_one_done, b__law_one_done, encR, one1]
  | deed c n d =>
    have hin : ∀ c : Int, pIn2 id (.int c) (.dict (encDT ts)) = some (.v (.bool (lst ts c).isSome)) := fun c => by
      rw [zq7d (nestD_DT ts), lookD_DT]; cases lst ts c <;> rfl
    have hix : pIx2 (.dict (encDT ts)) (.int c) = (lst ts c).map fun t => .v (.tuple [.int t.2.1, .int t.2.2]) := by
      rw [zq7b (nestD_DT ts), lookD_DT]; cases lst ts c <;> rfl
    have hg := getL ps
    have hpL := fun (k : Nat) (v : Int) => putL (ps := ps) (k := k) (v := v) hl.1
    have hpI := fun (a : Int) => putI (ts := ts) (c := c) (n := n) (a := a) hl.2
    have hnL := nestD_DL ps
    have hnT := nestD_DT ts
    have go : blk ts c n = false → FE f__law_one_done [.inn (.dict (encDL ps)), .inn (.dict (encDT ts)), .val (encR (.deed c n d))] nX fun o' outs' => o' = .v .none ∧ outs' = [.inn (.dict (encDL (one1 ps ts (.deed c n d)).1)), .inn (.dict (encDT (one1 ps ts (.deed c n d)).2)), .val (encR (.deed c n d))] := fun hb => by
      have e1 : one1 ps ts (.deed c n d) = match d with
        | .get k => (ps, pT ts (c, n, wth ps k))
        | .put k v => (pV ps (k, v), pT ts (c, n, wth ps k))
        | .add k v => (pV ps (k, wth ps k + v), pT ts (c, n, wth ps k + v)) := by
        unfold one1; dsimp only; rw [if_neg (by rw [hb]; exact Bool.false_ne_true)]
      rw [e1]
      cases hq : lst ts c with
      | none =>
        rw [hq] at hix
        cases d with
        | get k => simp! only [fe__law_one_done, b__law_one_done, encR, encD, hin, hq, Option.isSome_none, hg, hnL, hnT, pD_p hnT, hpI]
        | put k v => simp! only [fe__law_one_done, b__law_one_done, encR, encD, hin, hq, Option.isSome_none, hg, hnL, hnT, pD_p hnL, hpL, pD_p hnT, hpI]
        | add k v => simp! only [fe__law_one_done, b__law_one_done, encR, encD, hin, hq, Option.isSome_none, hg, hnL, hnT, pD_p hnL, hpL, pD_p hnT, hpI]
      | some t =>
        rw [hq] at hix
        have hm : ¬ n ≤ t.2.1 := by unfold blk at hb; rw [hq] at hb; simpa using hb
        cases d with
        | get k => simp! only [fe__law_one_done, b__law_one_done, encR, encD, hin, hq, Option.isSome_some, hix, hm, decide_false, hg, hnL, hnT, pD_p hnT, hpI]
        | put k v => simp! only [fe__law_one_done, b__law_one_done, encR, encD, hin, hq, Option.isSome_some, hix, hm, decide_false, hg, hnL, hnT, pD_p hnL, hpL, pD_p hnT, hpI]
        | add k v => simp! only [fe__law_one_done, b__law_one_done, encR, encD, hin, hq, Option.isSome_some, hix, hm, decide_false, hg, hnL, hnT, pD_p hnL, hpL, pD_p hnT, hpI]
    cases hb : blk ts c n with
    | false => exact go hb
    | true =>
      obtain ⟨t, hq, hm⟩ : ∃ t, lst ts c = some t ∧ n ≤ t.2.1 := by
        unfold blk at hb
        cases hq : lst ts c with
        | none => rw [hq] at hb; cases hb
        | some t => rw [hq] at hb; exact ⟨t, rfl, by simpa using hb⟩
      have e1 : one1 ps ts (.deed c n d) = (ps, ts) := by unfold one1; dsimp only; rw [if_pos hb]
      rw [hq] at hix
      rw [e1]
      simp! only [fe__law_one_done, b__law_one_done, encR, hin, hq, Option.isSome_some, hix, hm, decide_true]
/-! ### the store that dicts tell -/
theorem pair_DL (ps : VS) : (encDL ps).map pairD = ps.map encV := by unfold encDL; rw [List.map_map]; rfl
theorem told_eq {ps : VS} {ts : TS3} {S : Store} {n : Nat} (h : Sm ps ts S) (ok : SOk S n) : f__law_told [.inn (.dict (encDL ps)), .inn (.dict (encDT ts))] = .ok (.v (encS S)) [.inn (.dict (encDL ps)), .inn (.dict (encDT ts))] := by
  refine eq_fe ?_
  obtain ⟨ys, ey, py, ry⟩ := sorted_V ps h.nv
  obtain ⟨zs, okz, ez, pz, rz⟩ := sorted_T ts h.nt
  have eys : ys = S.1 := risV_eq ry ok.v fun p => (py.mem_iff).trans (h.v p)
  have ezs : zs = S.2 := risT_eq rz ok.t fun p => (pz.mem_iff).trans (h.t p)
  subst eys ezs
  have hit : pItemsK (.dict (encDL ps)) = some (.fr (.list (S.1.map encV))) := by
    have ey2 : (if okS (ps.map encV) = true then some (Op.fr (.list (sortD (ps.map encV)))) else none) = some (.fr (.list (S.1.map encV))) := ey
    show (if nestD (encDL ps) = true then none else if okS ((encDL ps).map pairD) = true then some (Op.fr (.list (sortD ((encDL ps).map pairD)))) else none) = _
    rw [nestD_DL, pair_DL, if_neg Bool.false_ne_true]
    exact ey2
  have hso : pSorted [.list (ts.map encT)] = some (.fr (.list (S.2.map encT))) := by
    show (if okS (ts.map encT) = true then some (Op.fr (.list (sortD (ts.map encT)))) else none) = _
    rw [if_pos okz, ez]
  have hix : ∀ t ∈ ts, pIx2 (.dict (encDT ts)) (.int t.1) = some (.v (.tuple [.int t.2.1, .int t.2.2])) := fun t m => by
    rw [zq7b (nestD_DT ts), lookD_DT]
    have : lst ts t.1 = some t := find_key (fun t : Int × Int × Int => t.1) h.nt m
    rw [this]; rfl
  have hkeys : pLstOf2 [.dict (encDT ts)] = some (.fr (.list (ts.map fun t => .int t.1))) := by
    have e : (encDT ts).map (·.1) = ts.map fun t => .int t.1 := by unfold encDT; rw [List.map_map]; rfl
    have q : pLstOf2 [.dict (encDT ts)] = some (.fr (.list ((encDT ts).map (·.1)))) := zq7h (nestD_DT ts)
    rw [q, e]
  simp! only [fe__law_told, b__law_told, hit, hkeys]
  refine lcs_all (fun t : Int × Int × Int => .int t.1) encT ts (by have := h.lt; omega) (fun t m => ?_) ?_
  · have := hix t m
    simp! only [cg__law_told_1, ce__law_told_1, this, encT]
  · simp! only [hso, encS]

/-! ### the parts of a store -/
theorem pV_new {ps : VS} {p : Nat × Int} (h : p.1 ∉ ps.map (·.1)) : pV ps p = ps ++ [p] := by
  unfold pV
  rw [if_neg]
  intro ha
  obtain ⟨q, mq, e⟩ := List.any_eq_true.mp ha
  exact h (List.mem_map.mpr ⟨q, mq, eq_of_beq e⟩)
theorem pT_new {ts : TS3} {p : Int × Int × Int} (h : p.1 ∉ ts.map (·.1)) : pT ts p = ts ++ [p] := by
  unfold pT
  rw [if_neg]
  intro ha
  obtain ⟨q, mq, e⟩ := List.any_eq_true.mp ha
  exact h (List.mem_map.mpr ⟨q, mq, eq_of_beq e⟩)
theorem merge_DL : ∀ (vs acc : VS), ((acc ++ vs).map (·.1)).Nodup → mergeD (encDL acc) (encDL vs) = encDL (acc ++ vs)
  | [], acc, _ => by rw [List.append_nil]; rfl
  | p :: vs, acc, h => by
    have hn : p.1 ∉ acc.map (·.1) := fun m => by
      rw [List.map_append, List.nodup_append] at h
      exact h.2.2 p.1 m p.1 (by simp) rfl
    show mergeD (putD (encDL acc) (encL p.1) (.int p.2)) (encDL vs) = _
    rw [putD_DL, show ((p.1, p.2) : Nat × Int) = p from rfl, pV_new hn, merge_DL vs (acc ++ [p]) (by rw [List.append_assoc]; exact h), List.append_assoc]; rfl
theorem merge_DT : ∀ (vs acc : TS3), ((acc ++ vs).map (·.1)).Nodup → mergeD (encDT acc) (encDT vs) = encDT (acc ++ vs)
  | [], acc, _ => by rw [List.append_nil]; rfl
  | p :: vs, acc, h => by
    have hn : p.1 ∉ acc.map (·.1) := fun m => by
      rw [List.map_append, List.nodup_append] at h
      exact h.2.2 p.1 m p.1 (by simp) rfl
    show mergeD (putD (encDT acc) (.int p.1) (.tuple [.int p.2.1, .int p.2.2])) (encDT vs) = _
    rw [putD_DT, show ((p.1, p.2.1, p.2.2) : Int × Int × Int) = p from rfl, pT_new hn, merge_DT vs (acc ++ [p]) (by rw [List.append_assoc]; exact h), List.append_assoc]; rfl
theorem pairs_V : ∀ vs : VS, pairsD (vs.map encV) = some (encDL vs)
  | [] => rfl
  | p :: vs => by
    show (if (keyOf (encL p.1)).isSome = true then (pairsD (vs.map encV)).map ((encL p.1, .int p.2) :: ·) else none) = _
    rw [if_pos (show (keyOf (encL p.1)).isSome = true from rfl), pairs_V vs]; rfl
theorem pairs_T : ∀ ts : TS3, pairsD (ts.map fun t => .tuple [.int t.1, .tuple [.int t.2.1, .int t.2.2]]) = some (encDT ts)
  | [] => rfl
  | p :: ts => by
    show (if (keyOf (.int p.1)).isSome = true then (pairsD (ts.map fun t => .tuple [.int t.1, .tuple [.int t.2.1, .int t.2.2]])).map ((.int p.1, .tuple [.int p.2.1, .int p.2.2]) :: ·) else none) = _
    rw [if_pos (show (keyOf (.int p.1)).isSome = true from rfl), pairs_T ts]; rfl
theorem dict_V {vs : VS} (h : NdV vs) : pDicT [.tuple (vs.map encV)] = some (.fr (.dict (encDL vs))) := by
  have hm := merge_DL vs [] h
  show (if plainOn = true then (pairsD (vs.map encV)).map (fun ps => Op.fr (.dict (mergeD [] ps))) else none) = _
  rw [if_pos (show plainOn = true from rfl), pairs_V]
  exact congrArg (fun z => some (Op.fr (.dict z))) hm
theorem dict_T {ts : TS3} (h : NdT ts) : pDicOf [.list (ts.map fun t => .tuple [.int t.1, .tuple [.int t.2.1, .int t.2.2]])] = some (.fr (.dict (encDT ts))) := by
  have hm := merge_DT ts [] h
  show (pairsD (ts.map fun t => .tuple [.int t.1, .tuple [.int t.2.1, .int t.2.2]])).map (fun ps => Op.fr (.dict (mergeD [] ps))) = _
  rw [pairs_T]
  exact congrArg (fun z => some (Op.fr (.dict z))) hm
theorem parts_eq {S : Store} {n : Nat} (ok : SOk S n) (hn : n ≤ 500) : f__law_parts [.val (encS S)] = .ok [(true, .dict (encDL S.1)), (true, .dict (encDT S.2))] [.val (encS S)] := by
  refine eq_fc ?_
  have h0 : ∀ Q : Op → En → Prop, ∀ ρ, OPK (pIx (encS S) (.int 0)) ρ Q = Q (.v (.tuple (S.1.map encV))) ρ := fun Q ρ => by unfold encS; simp! only [id_eq]
  have h1 : ∀ Q : Op → En → Prop, ∀ ρ, OPK (pIx (encS S) (.int 1)) ρ Q = Q (.v (.tuple (S.2.map encT))) ρ := fun Q ρ => by unfold encS; simp! only [id_eq]
  have hV := dict_V (nodup_ltN ok.v)
  have hT := dict_T (nodup_ltI ok.t)
  generalize encS S = E at h0 h1 ⊢
  simp! only [fe__law_parts, b__law_parts, h0, h1, hV]
  refine lcs_all encT (fun t => .tuple [.int t.1, .tuple [.int t.2.1, .int t.2.2]]) S.2 (by have := ok.lt; omega) (fun t m => ?_) ?_
  · simp! only [cg__law_parts_1, ce__law_parts_1, encT]
  · simp! only [hT]

theorem plainS (S : Store) : (encS S).plain = true ∧ (encS S).depth ≤ 64 := by
  have h1 : PyData.plainAll (S.1.map encV) = true := plainAll_map fun p _ => by simp [encV, encL, PyData.plain, PyData.plainAll]
  have h2 : PyData.plainAll (S.2.map encT) = true := plainAll_map fun p _ => by simp [encT, PyData.plain, PyData.plainAll]
  have d1 : PyData.depthAll (S.1.map encV) ≤ 1 := depthAll_map fun p _ => by simp [encV, encL, PyData.depth, PyData.depthAll]
  have d2 : PyData.depthAll (S.2.map encT) ≤ 1 := depthAll_map fun p _ => by simp [encT, PyData.depth, PyData.depthAll]
  exact ⟨by simp [encS, PyData.plain, PyData.plainAll, h1, h2], by simp only [encS, PyData.depth, PyData.depthAll]; omega⟩

/-! ### logs that are cut -/
theorem plain_D (d : Deed) : (encD d).plain = true := by cases d <;> simp [encD, encL, PyData.plain, PyData.plainAll]
theorem depth_D (d : Deed) : (encD d).depth ≤ 2 := by cases d <;> simp [encD, encL, PyData.depth, PyData.depthAll]
theorem plain_R (r : Row) : (encR r).plain = true := by
  cases r with
  | change s => simp [encR, encSet, PyData.plain, PyData.plainAll, plainAll_ints]
  | close => simp [encR, PyData.plain, PyData.plainAll]
  | deed c n d => simp [encR, PyData.plain, PyData.plainAll, plain_D]
theorem depth_R (r : Row) : (encR r).depth ≤ 4 := by
  cases r with
  | change s => have := depthAll_ints' s; simp only [encR, encSet, PyData.depth, PyData.depthAll]; omega
  | close => simp [encR, PyData.depth, PyData.depthAll]
  | deed c n d => have := depth_D d; simp only [encR, PyData.depth, PyData.depthAll]; omega
theorem plain_Rs (rs : List Row) : PyData.plainAll (rs.map encR) = true := plainAll_map fun r _ => plain_R r
theorem depth_Rs (rs : List Row) : PyData.depthAll (rs.map encR) ≤ 4 := depthAll_map fun r _ => depth_R r
theorem depth_S (S : Store) : (encS S).depth ≤ 4 := by
  have d1 : PyData.depthAll (S.1.map encV) ≤ 1 := depthAll_map fun p _ => by simp [encV, encL, PyData.depth, PyData.depthAll]
  have d2 : PyData.depthAll (S.2.map encT) ≤ 1 := depthAll_map fun p _ => by simp [encT, PyData.depth, PyData.depthAll]
  simp only [encS, PyData.depth, PyData.depthAll]; omega
theorem plain_Lg (c : Int) (S : Store) (G : List (List Int)) (rs : List Row) : (encLog c (encS S) G rs).plain = true := by
  simp [encLog, PyData.plain, PyData.plainAll, (plainS S).1, plain_group, plain_Rs]
theorem depth_Lg (c : Int) (S : Store) (G : List (List Int)) (rs : List Row) : (encLog c (encS S) G rs).depth ≤ 64 := by
  have h1 := depth_S S
  have h2 : (encGroup G).depth ≤ 4 := Nat.le_trans (depth_tuple (depthAll_map (n := 2) fun s _ => depth_tuple (depthAll_ints' s))) (by decide)
  have h3 := depth_Rs rs
  simp only [encLog, PyData.depth, PyData.depthAll]; omega
theorem ledS_len {G : List (List Int)} {r : Row} (h : G.length = 1 ∨ G.length = 2) (ha : RowLet G.length r) : (ledS G r).length = if r.isDeed = true then G.length else 3 - G.length := by
  match r, G, h, ha with
  | .deed c n d, G, _, _ => rfl
  | .change s, [g], _, _ => rfl
  | .change s, [g, g2], _, ha => exact absurd (show (2 : Nat) = 1 from ha) (by decide)
  | .close, [g], _, ha => exact absurd (show (1 : Nat) = 2 from ha) (by decide)
  | .close, [g, g2], _, _ => rfl
theorem LetA.drop : ∀ (k : Nat) (rs : List Row) (G : List (List Int)), (G.length = 1 ∨ G.length = 2) → LetA G.length rs → LetA (led G (rs.take k)).length (rs.drop k)
  | 0, _, _, _, h => h
  | _ + 1, [], _, _, _ => trivial
  | k + 1, r :: rs, G, hG, h => by
    have e := ledS_len hG h.1
    have h2 : LetA (ledS G r).length rs := by rw [e]; exact h.2
    refine LetA.drop k rs (ledS G r) ?_ h2
    rw [e]; split <;> omega
theorem led_app : ∀ (xs ys : List Row) (G : List (List Int)), led G (xs ++ ys) = led (led G xs) ys
  | [], _, _ => rfl
  | x :: xs, ys, G => led_app xs ys (ledS G x)
theorem store_at_eq {c : Int} {S : Store} {G : List (List Int)} {rs : List Row} {n : Nat} (ok : SOk S n) (hn : n + rs.length ≤ 400) (k : Nat) : f_store_at [.val (encLog c (encS S) G rs), .val (.int (c + k))] = .ok (.v (encS ((rs.take k).foldl dn S))) [.val (encLog c (encS S) G rs), .val (.int (c + k))] := by
  refine eq_fe ?_
  have hA := all_done_eq ok (rs.take k) (by rw [List.length_take]; omega)
  have ecut : cutD (rs.map encR) none (some (c + (k : Int) - c)) = (rs.take k).map encR := by
    rw [show c + (k : Int) - c = (k : Int) by omega, cutD_to, List.map_take]
  generalize hE : encS S = E at hA ⊢
  simp! only [fe_store_at, b_store_at, encLog, ecut, fe_of hA]
theorem cut_at_eq {c : Int} {S : Store} {G : List (List Int)} {rs : List Row} {n : Nat} (ok : SOk S n) (hn : n + rs.length ≤ 400) (hG : G.length = 1 ∨ G.length = 2) (ha : LetA G.length rs) (k : Nat) :
    f_cut_at [.val (encLog c (encS S) G rs), .val (.int (c + k))] = .ok (.v (encLog (c + k) (encS ((rs.take k).foldl dn S)) (led G (rs.take k)) (rs.drop k))) [.val (encLog c (encS S) G rs), .val (.int (c + k))] := by
  refine eq_fe ?_
  have hst := store_at_eq (c := c) (G := G) ok hn k
  have hgb := group_behind_eq (rs.take k) hG
  rw [(behind_led (rs.take k) G hG (LetA.take k _ rs ha)).1] at hgb
  have e1 : cutD (rs.map encR) none (some (c + (k : Int) - c)) = (rs.take k).map encR := by
    rw [show c + (k : Int) - c = (k : Int) by omega, cutD_to, List.map_take]
  have e2 : cutD (rs.map encR) (some (c + (k : Int) - c)) none = (rs.drop k).map encR := by
    rw [show c + (k : Int) - c = (k : Int) by omega, cutD_from, List.map_drop]
  have hL : encLog c (encS S) G rs = .tuple [.int c, encS S, encGroup G, .tuple (rs.map encR)] := rfl
  rw [hL] at hst ⊢
  generalize encS S = E at hst ⊢
  generalize encGroup G = EG at hst hgb ⊢
  simp! only [fe_cut_at, b_cut_at, encLog, e1, e2, fe_of hst, fe_of hgb, encO]
theorem behind_eq {S : Store} {rs : List Row} {n : Nat} (ok : SOk S n) (hn : n + rs.length ≤ 400) : f__law_behind [.val (encS S), .val (.tuple (rs.map encR))] = .ok (.v (encS (rs.foldl dn S))) [.val (encS S), .val (.tuple (rs.map encR))] := by
  refine eq_fe ?_
  have hp := parts_eq ok (by omega)
  generalize hE : encS S = E at hp ⊢
  generalize hR : PyData.tuple (rs.map encR) = R
  simp! only [fe__law_behind, b__law_behind, fc_of hp]
  rw [← hR]
  simp! only [id_eq]
  rw [hR]
  refine wf_inv encR rs (fun pre ρ => ∃ (ps : VS) (ts : TS3), Sm ps ts (pre.foldl dn S) ∧ ps.length ≤ n + pre.length ∧ ts.length ≤ n + pre.length ∧ ρ = [.val E, .val R, .no, .own (.dict (encDL ps)), .own (.dict (encDT ts))]) ?_ ?_ ⟨S.1, S.2, Sm.self ok (by omega), by have := ok.lv; simp; omega, by have := ok.lt; simp; omega, rfl⟩
  · rintro pre r post hx ρ ⟨ps, ts, sm, l1, l2, rfl⟩
    have hp : pre.length + 1 ≤ rs.length := by rw [← hx, List.length_append, List.length_cons]; omega
    have okp : SOk (pre.foldl dn S) (n + pre.length) := fold_ok pre ok (Nat.le_refl _)
    have ho := one_done_eq (ps := ps) (ts := ts) ⟨by omega, by omega⟩ r
    have sm2 := sm.one okp r ⟨by omega, by omega⟩
    have hl := one1_len ps ts r
    have hlen : (pre ++ [r]).length = pre.length + 1 := by rw [List.length_append]; rfl
    generalize encR r = x at ho
    simp! only [g__law_behind_1, l__law_behind_1, fe_of ho]
    exact ⟨_, _, by rw [List.foldl_append]; exact sm2, by omega, by omega, rfl⟩
  · rintro ρ ⟨ps, ts, sm, l1, l2, rfl⟩
    have ht := told_eq sm (fold_ok rs ok (Nat.le_refl _))
    simp! only [fe_of ht]

/-! ### does it agree -/
def eqS (S T : Store) : Bool := PyData.eqv (encS S) (encS T)
def eqG (S T : List (List Int)) : Bool := PyData.eqv (encGroup S) (encGroup T)
def eqR (S T : List Row) : Bool := PyData.eqv (.tuple (S.map encR)) (.tuple (T.map encR))
theorem plain_T (rs : List Row) : (PyData.tuple (rs.map encR)).plain = true := plain_tuple (plain_Rs rs)
theorem depth_T (rs : List Row) : (PyData.tuple (rs.map encR)).depth ≤ 64 := Nat.le_trans (depth_tuple (depth_Rs rs)) (by decide)
theorem pEq_S (S T : Store) : pEq (encS S) (encS T) = some (.v (.bool (eqS S T))) := by
  unfold pEq; rw [if_pos (okD_of (plainS S).1 (plainS T).1 (plainS S).2)]; rfl
theorem pNe_S (S T : Store) : pNe (encS S) (encS T) = some (.v (.bool (!eqS S T))) := by
  unfold pNe; rw [if_pos (okD_of (plainS S).1 (plainS T).1 (plainS S).2)]; rfl
theorem pEq_G (S T : List (List Int)) : pEq (encGroup S) (encGroup T) = some (.v (.bool (eqG S T))) := by
  unfold pEq; rw [if_pos (okD_of (plain_group S) (plain_group T) (depth_group S))]; rfl
theorem pNe_G (S T : List (List Int)) : pNe (encGroup S) (encGroup T) = some (.v (.bool (!eqG S T))) := by
  unfold pNe; rw [if_pos (okD_of (plain_group S) (plain_group T) (depth_group S))]; rfl
theorem pEq_R (S T : List Row) : pEq (.tuple (S.map encR)) (.tuple (T.map encR)) = some (.v (.bool (eqR S T))) := by
  unfold pEq; rw [if_pos (okD_of (plain_T S) (plain_T T) (depth_T S))]; rfl
theorem pNe_R (S T : List Row) : pNe (.tuple (S.map encR)) (.tuple (T.map encR)) = some (.v (.bool (!eqR T S))) := by
  unfold pNe; rw [if_pos (okD_of (plain_T S) (plain_T T) (depth_T S))]
  unfold eqR; rw [PySem.W.eqv_comm]
/-- what both tell -/
def agr (c : Nat) (S : Store) (G : List (List Int)) (ms : List Row) (F : List (List Int)) (rs : List Row) : Bool :=
  decide (c + ms.length ≤ rs.length) && (eqS S ((rs.take c).foldl dn ([], [])) && eqG G (led F (rs.take c)) && eqR ms ((rs.drop c).take ms.length))
theorem ok0 : SOk ([], []) 0 := ⟨List.Pairwise.nil, List.Pairwise.nil, Nat.le_refl _, Nat.le_refl _⟩
theorem first_store_eq : f_first_store [] = .ok (.v (encS ([], []))) [] := by
  refine eq_fe ?_
  simp! only [fe_first_store, b_first_store]
  rfl
theorem length_eq {c : Int} {st : PyData} {G : List (List Int)} {rs : List Row} : f_length [.val (encLog c st G rs)] = .ok (.v (.int (c + rs.length))) [.val (encLog c st G rs)] := by
  refine eq_fe ?_
  simp! only [fe_length, b_length, encLog, List.length_map]
theorem agree_eq {c : Nat} {S : Store} {G : List (List Int)} {ms : List Row} {F : List (List Int)} {rs : List Row} (hl : rs.length ≤ 200) (hF : F.length = 1 ∨ F.length = 2) (ha : LetA F.length rs) :
    f_does_agree [.val (encLog c (encS S) G ms), .val (encGroup F), .val (.tuple (rs.map encR))] = .ok (.v (.bool (agr c S G ms F rs))) [.val (encLog c (encS S) G ms), .val (encGroup F), .val (.tuple (rs.map encR))] := by
  refine eq_fe ?_
  have hlen := length_eq (c := (c : Int)) (st := encS S) (G := G) (rs := ms)
  have hA := all_done_eq ok0 (rs.take c) (by rw [List.length_take]; omega)
  have hgb := group_behind_eq (rs.take c) hF
  rw [(behind_led (rs.take c) F hF (LetA.take c _ rs ha)).1] at hgb
  have e1 : cutD (rs.map encR) none (some ((c : Nat) : Int)) = (rs.take c).map encR := by rw [cutD_to, List.map_take]
  have e2 : cutD (rs.map encR) (some ((c : Nat) : Int)) (some ((c : Int) + (ms.length : Nat))) = ((rs.drop c).take ms.length).map encR := by
    rw [show (c : Int) + (ms.length : Nat) = ((c + ms.length : Nat) : Int) by omega, cutD_mid, List.map_take, List.map_drop, show c + ms.length - c = ms.length by omega]
  have hS := pNe_S S ((rs.take c).foldl dn ([], []))
  have hGq := pNe_G G (led F (rs.take c))
  have hR := pEq_R ms ((rs.drop c).take ms.length)
  have hL : encLog c (encS S) G ms = .tuple [.int c, encS S, encGroup G, .tuple (ms.map encR)] := rfl
  have hrl : (rs.map encR).length = rs.length := List.length_map ..
  rw [hL] at hlen ⊢
  unfold agr
  generalize encS S = E at hlen hS ⊢
  generalize encGroup G = EG at hlen hGq ⊢
  generalize encGroup F = EF at hgb ⊢
  generalize hER : rs.map encR = ER at e1 e2 hrl
  by_cases h1 : (rs.length : Int) < (c : Int) + (ms.length : Nat)
  · have h2 : decide (c + ms.length ≤ rs.length) = false := decide_eq_false (by omega)
    simp! only [fe_does_agree, b_does_agree, fe_of hlen, hrl, h1, decide_true, h2]
  · have h2 : decide (c + ms.length ≤ rs.length) = true := decide_eq_true (by omega)
    cases q1 : eqS S ((rs.take c).foldl dn ([], [])) with
    | false =>
      rw [q1] at hS
      simp! only [fe_does_agree, b_does_agree, fe_of hlen, hrl, h1, decide_false, h2, e1, fe_of first_store_eq, fe_of hA, hS]
    | true =>
      rw [q1] at hS
      cases q2 : eqG G (led F (rs.take c)) with
      | false =>
        rw [q2] at hGq
        simp! only [fe_does_agree, b_does_agree, fe_of hlen, hrl, h1, decide_false, h2, e1, fe_of first_store_eq, fe_of hA, hS, fe_of hgb, encO, hGq]
      | true =>
        rw [q2] at hGq
        simp! only [fe_does_agree, b_does_agree, fe_of hlen, hrl, h1, decide_false, h2, e1, e2, fe_of first_store_eq, fe_of hA, hS, fe_of hgb, encO, hGq, hR]
theorem agrees_eq {c : Nat} {S : Store} {G : List (List Int)} {ms : List Row} {F : List (List Int)} {rs : List Row} (hl : rs.length ≤ 200) (hF : F.length = 1 ∨ F.length = 2) (ha : LetA F.length rs) :
    f__law_agrees [.val (encLog c (encS S) G ms), .val (encGroup F), .val (.tuple (rs.map encR))] = .ok (.v (.bool (agr c S G ms F rs))) [.val (encLog c (encS S) G ms), .val (encGroup F), .val (.tuple (rs.map encR))] := by
  refine eq_fe ?_
  have hb := behind_eq (rs := rs.take c) ok0 (by rw [List.length_take]; omega)
  have hld := led_eq hF (LetA.take c _ rs ha)
  have e0 : PyData.tuple [.tuple [], .tuple []] = encS ([], []) := rfl
  have e1 : cutD (rs.map encR) none (some ((c : Nat) : Int)) = (rs.take c).map encR := by rw [cutD_to, List.map_take]
  have e2 : cutD (rs.map encR) (some ((c : Nat) : Int)) (some ((c : Int) + (ms.length : Nat))) = ((rs.drop c).take ms.length).map encR := by
    rw [show (c : Int) + (ms.length : Nat) = ((c + ms.length : Nat) : Int) by omega, cutD_mid, List.map_take, List.map_drop, show c + ms.length - c = ms.length by omega]
  have hS := pEq_S S ((rs.take c).foldl dn ([], []))
  have hGq := pEq_G G (led F (rs.take c))
  have hR := pNe_R ((rs.drop c).take ms.length) ms
  have hL : encLog c (encS S) G ms = .tuple [.int c, encS S, encGroup G, .tuple (ms.map encR)] := rfl
  have hrl : (rs.map encR).length = rs.length := List.length_map ..
  rw [hL]
  unfold agr
  generalize encS S = E at hS ⊢
  generalize encGroup G = EG at hGq ⊢
  generalize encGroup F = EF at hld ⊢
  generalize hER : rs.map encR = ER at e1 e2 hrl
  by_cases h1 : (rs.length : Int) < (c : Int) + (ms.length : Nat)
  · have h2 : decide (c + ms.length ≤ rs.length) = false := decide_eq_false (by omega)
    simp! only [fe__law_agrees, b__law_agrees, List.length_map, hrl, h1, decide_true, h2]
  · have h2 : decide (c + ms.length ≤ rs.length) = true := decide_eq_true (by omega)
    cases q3 : eqR ms ((rs.drop c).take ms.length) with
    | false =>
      rw [q3] at hR
      simp! only [fe__law_agrees, b__law_agrees, List.length_map, hrl, h1, decide_false, h2, e2, hR]
    | true =>
      rw [q3] at hR
      cases q1 : eqS S ((rs.take c).foldl dn ([], [])) with
      | false =>
        rw [q1] at hS
        simp! only [fe__law_agrees, b__law_agrees, List.length_map, hrl, h1, decide_false, h2, e1, e2, hR, e0, fe_of hb, hS]
      | true =>
        rw [q1] at hS
        simp! only [fe__law_agrees, b__law_agrees, List.length_map, hrl, h1, decide_false, h2, e1, e2, hR, e0, fe_of hb, hS, fe_of hld, hGq]
/-! ### other rows, other stores, other logs -/
def Row.kin : Row → Row → Prop
  | .deed _ _ _, .deed _ _ _ => True
  | .change _, .change _ => True
  | .close, .close => True
  | _, _ => False
theorem kin_isD {r r' : Row} (h : r.kin r') : r.isDeed = r'.isDeed := by cases r <;> cases r' <;> first | rfl | exact h.elim
theorem kin_let {r r' : Row} {m : Nat} (h : r.kin r') (l : RowLet m r) : RowLet m r' := by cases r <;> cases r' <;> first | exact l | exact h.elim
theorem let_kin {r r' : Row} (h : r.kin r') (ys : List Row) : ∀ (xs : List Row) (m : Nat), LetA m (xs ++ r :: ys) → LetA m (xs ++ r' :: ys)
  | [], m, l => ⟨kin_let h l.1, by rw [← kin_isD h]; exact l.2⟩
  | x :: xs, m, l => ⟨l.1, let_kin h ys xs _ l.2⟩
theorem kin_refl (r : Row) : r.kin r := by cases r <;> trivial
def Row.isClose : Row → Bool
  | .close => true
  | _ => false
theorem row_close (r : Row) : pEq (encR r) (.tuple [.str "close"]) = some (.v (.bool r.isClose)) := by
  unfold pEq
  rw [if_pos (okD_of (plain_R r) (by simp [PyData.plain, PyData.plainAll]) (Nat.le_trans (depth_R r) (by decide)))]
  cases r with
  | change s => simp [encR, encSet, PyData.eqv, PyData.eqvAll, Row.isClose]
  | close => simp [encR, PyData.eqv, PyData.eqvAll, Row.isClose]
  | deed c n d => simp [encR, PyData.eqv, PyData.eqvAll, Row.isClose]
theorem other_row_sp {a b : Int} {r : Row} {Q : Op → En → Prop} (g : Good a b) (hq : ∀ r' a' b', r.kin r' → Good a' b' → Q (.v (encR r')) [.inn (stt a' b'), .val (encR r)]) : FE f__law_other_row [.inn (stt a b), .val (encR r)] nX Q := by
  have hc := row_close r
  cases r with
  | change s =>
    simp only [encR] at hc hq
    simp! only [fe__law_other_row, b__law_other_row, encR, hc, Row.isClose]
    refine set_sp g fun B a1 b1 l1 u1 g1 => ?_
    simp! only [id_eq]
    exact hq (.change (bitSet B)) _ _ trivial g1
  | close =>
    simp only [encR] at hc hq
    simp! only [fe__law_other_row, b__law_other_row, encR, hc, Row.isClose]
    exact hq .close _ _ trivial g
  | deed c n d =>
    simp only [encR] at hc hq
    simp! only [fe__law_other_row, b__law_other_row, encR, hc, Row.isClose]
    refine next_sp g (by decide) (by decide) fun w a1 b1 w0 w1 g1 => ?_
    simp! only [id_eq]
    refine brS_of (fun h => ?_) (fun h => ?_)
    · simp! only [id_eq]
      exact hq (.deed (c + 1) n d) _ _ trivial g1
    · simp! only [id_eq]
      refine deed_sp g1 fun d' a2 b2 _ g2 => ?_
      simp! only [id_eq]
      exact hq (.deed c (n + w - 1) d') _ _ trivial g2
theorem eq_nil {α : Type} {enc : α → PyData} {xs : List α} (h1 : PyData.plainAll (xs.map enc) = true) (h2 : PyData.depthAll (xs.map enc) ≤ 60) : pEq (.tuple (xs.map enc)) (.tuple []) = some (.v (.bool xs.isEmpty)) ∧ pNe (.tuple (xs.map enc)) (.tuple []) = some (.v (.bool (!xs.isEmpty))) := by
  have ok : okD (.tuple (xs.map enc)) (.tuple []) = true := okD_of (by simp [PyData.plain, h1]) (by simp [PyData.plain, PyData.plainAll]) (by simp only [PyData.depth]; omega)
  unfold pEq pNe
  rw [if_pos ok, if_pos ok]
  cases xs with
  | nil => simp [PyData.eqv, PyData.eqvAll]
  | cons d ds => simp [PyData.eqv, PyData.eqvAll]
/-- put in the place of the k-th -/
theorem parts_at {α : Type} {xs : List α} {k : Nat} (h : k < xs.length) : xs = xs.take k ++ xs[k] :: xs.drop (k + 1) := by
  rw [List.getElem_cons_drop, List.take_append_drop]
theorem with_other_sp {a b : Int} {rs : List Row} {Q : Op → En → Prop} (g : Good a b) (hl : rs.length ≤ 200) (hq : ∀ rs' a' b', rs'.length = rs.length → (∀ m, LetA m rs → LetA m rs') → Good a' b' → Q (.v (.tuple (rs'.map encR))) [.inn (stt a' b'), .val (.tuple (rs.map encR))]) : FE f__law_with_other [.inn (stt a b), .val (.tuple (rs.map encR))] nX Q := by
  have hn := (eq_nil (xs := rs) (plain_Rs rs) (Nat.le_trans (depth_Rs rs) (by decide))).1
  cases he : rs.isEmpty with
  | true =>
    rw [he] at hn
    simp! only [fe__law_with_other, b__law_with_other, hn]
    exact hq rs _ _ rfl (fun _ h => h) g
  | false =>
    rw [he] at hn
    have hpos : 0 < rs.length := by
      cases rs with
      | nil => cases he
      | cons r rs => simp
    have hrl : (rs.map encR).length = rs.length := List.length_map ..
    have hz1 : ∀ k : Nat, ((rs.take k).map encR).length + 1 ≤ sizeLine := fun k => by rw [List.length_map, List.length_take]; exact small6 (by omega)
    have hz2 : ∀ (k : Nat) (x : PyData), ((rs.take k).map encR ++ [x]).length + ((rs.drop (k + 1)).map encR).length ≤ sizeLine := fun k x => by rw [List.length_append, List.length_map, List.length_map, List.length_take, List.length_drop]; simp only [List.length_cons, List.length_nil]; exact small6 (by omega)
    have e1 : ∀ k : Nat, cutD (rs.map encR) none (some ((k : Nat) : Int)) = (rs.take k).map encR := fun k => by rw [cutD_to, List.map_take]
    have e2 : ∀ k : Nat, cutD (rs.map encR) (some ((k : Int) + 1)) none = (rs.drop (k + 1)).map encR := fun k => by rw [show (k : Int) + 1 = ((k + 1 : Nat) : Int) by omega, cutD_from, List.map_drop]
    have hat : ∀ (k : Nat) (h : k < rs.length), atI (rs.map encR) (k : Int) = some (encR rs[k]) := fun k h => by rw [atI_nat (by rw [List.length_map]; exact h)]; simp
    generalize hER : rs.map encR = ER at hn hrl e1 e2 hat hq ⊢
    simp! only [fe__law_with_other, b__law_with_other, hn, hrl]
    refine next_sp g (by omega) (by omega) fun r a1 b1 r0 r1 g1 => ?_
    obtain ⟨k, rfl⟩ : ∃ k : Nat, r = k := ⟨r.toNat, by omega⟩
    have hk : k < rs.length := by omega
    simp! only [e1, hat k hk]
    refine other_row_sp g1 fun r' a2 b2 hr g2 => ?_
    have eA : (rs.take k).map encR ++ [encR r'] ++ (rs.drop (k + 1)).map encR = (rs.take k ++ r' :: rs.drop (k + 1)).map encR := by rw [List.map_append, List.map_cons, List.append_assoc]; rfl
    simp! only [hz1, e2, hz2, eA]
    refine hq _ _ _ ?_ (fun m h => ?_) g2
    · have := congrArg List.length (parts_at hk)
      rw [List.length_append, List.length_cons] at this ⊢; exact this.symm
    · refine let_kin hr _ _ _ ?_
      rw [← parts_at hk]; exact h
theorem other_store_sp {a b : Int} {S : Store} {Q : Op → En → Prop} (g : Good a b) (l1 : S.1.length ≤ 300) (l2 : S.2.length ≤ 300) (hq : ∀ S' a' b', Good a' b' → Q (.v (encS S')) [.inn (stt a' b'), .val (encS S)]) : FE f__law_other_store [.inn (stt a b), .val (encS S)] nX Q := by
  have n1 := (eq_nil (enc := encV) (xs := S.1) (plainAll_map fun p _ => by simp [encV, encL, PyData.plain, PyData.plainAll]) (Nat.le_trans (depthAll_map (n := 1) fun p _ => by simp [encV, encL, PyData.depth, PyData.depthAll]) (by decide))).2
  have n2 := (eq_nil (enc := encT) (xs := S.2) (plainAll_map fun p _ => by simp [encT, PyData.plain, PyData.plainAll]) (Nat.le_trans (depthAll_map (n := 1) fun p _ => by simp [encT, PyData.depth, PyData.depthAll]) (by decide))).1
  obtain ⟨vs, ts⟩ := S
  dsimp only at l1 l2 n1 n2
  have eS : ∀ (vs : VS) (ts : TS3), encS (vs, ts) = .tuple [.tuple (vs.map encV), .tuple (ts.map encT)] := fun _ _ => rfl
  have hvl : (vs.map encV).length = vs.length := List.length_map ..
  have htl : (ts.map encT).length = ts.length := List.length_map ..
  have v1 : ∀ k : Nat, cutD (vs.map encV) none (some ((k : Nat) : Int)) = (vs.take k).map encV := fun k => by rw [cutD_to, List.map_take]
  have v2 : ∀ k : Nat, cutD (vs.map encV) (some ((k : Int) + 1)) none = (vs.drop (k + 1)).map encV := fun k => by rw [show (k : Int) + 1 = ((k + 1 : Nat) : Int) by omega, cutD_from, List.map_drop]
  have t1 : ∀ k : Nat, cutD (ts.map encT) none (some ((k : Nat) : Int)) = (ts.take k).map encT := fun k => by rw [cutD_to, List.map_take]
  have t2 : ∀ k : Nat, cutD (ts.map encT) (some ((k : Int) + 1)) none = (ts.drop (k + 1)).map encT := fun k => by rw [show (k : Int) + 1 = ((k + 1 : Nat) : Int) by omega, cutD_from, List.map_drop]
  have vz1 : ∀ k : Nat, ((vs.take k).map encV).length + 1 ≤ sizeLine := fun k => by rw [List.length_map, List.length_take]; exact small6 (by omega)
  have vz2 : ∀ (k : Nat) (x : PyData), ((vs.take k).map encV ++ [x]).length + ((vs.drop (k + 1)).map encV).length ≤ sizeLine := fun k x => by rw [List.length_append, List.length_map, List.length_map, List.length_take, List.length_drop]; simp only [List.length_cons, List.length_nil]; exact small6 (by omega)
  have tz1 : ∀ k : Nat, ((ts.take k).map encT).length + 1 ≤ sizeLine := fun k => by rw [List.length_map, List.length_take]; exact small6 (by omega)
  have tz2 : ∀ (k : Nat) (x : PyData), ((ts.take k).map encT ++ [x]).length + ((ts.drop (k + 1)).map encT).length ≤ sizeLine := fun k x => by rw [List.length_append, List.length_map, List.length_map, List.length_take, List.length_drop]; simp only [List.length_cons, List.length_nil]; exact small6 (by omega)
  have vat : ∀ (k : Nat) (h : k < vs.length), atI (vs.map encV) (k : Int) = some (encV vs[k]) := fun k h => by rw [atI_nat (by rw [List.length_map]; exact h)]; simp
  have tat : ∀ (k : Nat) (h : k < ts.length), atI (ts.map encT) (k : Int) = some (encT ts[k]) := fun k h => by rw [atI_nat (by rw [List.length_map]; exact h)]; simp
  rw [eS]
  rw [eS] at hq
  generalize hEV : vs.map encV = EV at n1 hvl v1 v2 vat hq ⊢
  generalize hET : ts.map encT = ET at n2 htl t1 t2 tat hq ⊢
  have rest : ∀ a1 b1, Good a1 b1 → WS (seqS (sIfS (sTest (sP2 pEq (sV 4) (sTup (sNil)))) (sRet (sTup (sCons (sV 3) (sCons (sTup (sCons (sTup (sCons (sC (.int 0)) (sCons (sC (.int 1)) (sCons (sC (.int 0)) (sNil))))) (sNil))) (sNil))))) (sNext))
  (seqS (sAsg 2 (sCall f__law_next (sCons (sV 0) (sCons (sPN pLen (sCons (sV 4) (sNil))) (sNil)))))
  (seqS (sAsgT (gT 3 (gCn (gN 5) (gCn (gN 6) (gCn (gN 7) (gNl))))) (sP2 pIx (sV 4) (sV 2)))
  (sRet (sTup (sCons (sV 3) (sCons (sP2 pAdd (sP2 pAdd (sSl (sV 4) (sNo) (sSome (sV 2))) (sTup (sCons (sTup (sCons (sV 5) (sCons (sP2 pAdd (sV 6) (sCall f__law_next (sCons (sV 0) (sCons (sC (.int 2)) (sNil))))) (sCons (sP2 pSub (sV 7) (sCall f__law_next (sCons (sV 0) (sCons (sC (.int 2)) (sNil))))) (sNil))))) (sNil)))) (sSl (sV 4) (sSome (sP2 pAdd (sV 2) (sC (.int 1)))) (sNo))) (sNil)))))))) [.inn (stt a1 b1), .val (.tuple [.tuple EV, .tuple ET]), .no, .val (.tuple EV), .val (.tuple ET), .no, .no, .no] (FIN [.inn (stt a b), .val (.tuple [.tuple EV, .tuple ET])] nX Q) := by
    intro a1 b1 g1
    cases he : ts.isEmpty with
    | true =>
      rw [he] at n2
      have e2 : PyData.tuple [.tuple EV, .tuple [.tuple [.int 0, .int 1, .int 0]]] = encS (vs, [(0, 1, 0)]) := by rw [eS, hEV]; rfl
      simp! only [n2, e2]
      exact hq _ _ _ g1
    | false =>
      rw [he] at n2
      have hpos : 0 < ts.length := by
        cases ts with
        | nil => cases he
        | cons r rs => simp
      simp! only [n2, htl]
      refine next_sp g1 (by omega) (by omega) fun r a2 b2 r0 r1 g2 => ?_
      obtain ⟨k, rfl⟩ : ∃ k : Nat, r = k := ⟨r.toNat, by omega⟩
      have hk : k < ts.length := by omega
      simp! only [tat k hk]
      simp! only [encT, t1]
      refine next_sp g2 (by decide) (by decide) fun x a3 b3 x0 x1 g3 => ?_
      simp! only [id_eq]
      refine next_sp g3 (by decide) (by decide) fun y a4 b4 y0 y1 g4 => ?_
      have eA : (ts.take k).map encT ++ [.tuple [.int ts[k].1, .int (ts[k].2.1 + x), .int (ts[k].2.2 - y)]] ++ (ts.drop (k + 1)).map encT = (ts.take k ++ (ts[k].1, ts[k].2.1 + x, ts[k].2.2 - y) :: ts.drop (k + 1)).map encT := by rw [List.map_append, List.map_cons, List.append_assoc]; rfl
      have e3 : PyData.tuple [.tuple EV, .tuple ((ts.take k ++ (ts[k].1, ts[k].2.1 + x, ts[k].2.2 - y) :: ts.drop (k + 1)).map encT)] = encS (vs, ts.take k ++ (ts[k].1, ts[k].2.1 + x, ts[k].2.2 - y) :: ts.drop (k + 1)) := by rw [eS, hEV]
      have tz1' := tz1 k
      have tz2' := tz2 k (.tuple [.int ts[k].1, .int (ts[k].2.1 + x), .int (ts[k].2.2 - y)])
      simp! only [tz1', t2, encT, tz2', eA, e3]
      exact hq _ _ _ g4
  cases he : vs.isEmpty with
  | true =>
    rw [he] at n1
    have := rest a b g
    simp! only [fe__law_other_store, b__law_other_store, n1] at this ⊢
    exact this
  | false =>
    rw [he] at n1
    have hpos : 0 < vs.length := by
      cases vs with
      | nil => cases he
      | cons r rs => simp
    simp! only [fe__law_other_store, b__law_other_store, n1]
    refine next_sp g (by decide) (by decide) fun r a1 b1 r0 r1 g1 => ?_
    simp! only [id_eq]
    refine brS_of (fun h => ?_) (fun h => ?_)
    · simp! only [hvl]
      refine next_sp g1 (by omega) (by omega) fun r a2 b2 r0 r1 g2 => ?_
      obtain ⟨k, rfl⟩ : ∃ k : Nat, r = k := ⟨r.toNat, by omega⟩
      have hk : k < vs.length := by omega
      simp! only [vat k hk, v1]
      have eA : (vs.take k).map encV ++ [.tuple [encL vs[k].1, .int (vs[k].2 + 1)]] ++ (vs.drop (k + 1)).map encV = (vs.take k ++ (vs[k].1, vs[k].2 + 1) :: vs.drop (k + 1)).map encV := by rw [List.map_append, List.map_cons, List.append_assoc]; rfl
      have e3 : PyData.tuple [.tuple ((vs.take k ++ (vs[k].1, vs[k].2 + 1) :: vs.drop (k + 1)).map encV), .tuple ET] = encS (vs.take k ++ (vs[k].1, vs[k].2 + 1) :: vs.drop (k + 1), ts) := by rw [eS, hET]
      have vz1' := vz1 k
      have vz2' := vz2 k (.tuple [encL vs[k].1, .int (vs[k].2 + 1)])
      simp! only [encV, vat k hk, vz1', v2, vz2', eA, e3]
      exact hq _ _ _ g2
    · have := rest a1 b1 g1
      simp! only [id_eq] at this ⊢
      exact this
theorem other_log_sp {a b : Int} {c : Nat} {S : Store} {G : List (List Int)} {ms : List Row} {Q : Op → En → Prop} (g : Good a b) (l1 : S.1.length ≤ 300) (l2 : S.2.length ≤ 300) (l3 : ms.length ≤ 200) (l4 : G.length ≤ 2)
    (hq : ∀ (c' : Nat) S' G' ms' a' b', Good a' b' → Q (.v (encLog c' (encS S') G' ms')) [.inn (stt a' b'), .val (encLog c (encS S) G ms)]) : FE f__law_other_log [.inn (stt a b), .val (encLog c (encS S) G ms)] nX Q := by
  have hL : ∀ (c : Int) (st : PyData) (G : List (List Int)) (ms : List Row), encLog c st G ms = .tuple [.int c, st, encGroup G, .tuple (ms.map encR)] := fun _ _ _ _ => rfl
  have hst := fun a b g Q h => other_store_sp (a := a) (b := b) (S := S) (Q := Q) g l1 l2 h
  have hwo := fun a b g Q h => with_other_sp (a := a) (b := b) (rs := ms) (Q := Q) g l3 h
  rw [hL] at hq ⊢
  generalize hES : encS S = ES at hst hq ⊢
  generalize hER : PyData.tuple (ms.map encR) = ER at hwo hq ⊢
  simp! only [fe__law_other_log, b__law_other_log, encGroup]
  refine next_sp g (by decide) (by decide) fun w a1 b1 w0 w1 g1 => ?_
  have h6 : w = 0 ∨ w = 1 ∨ w = 2 ∨ w = 3 ∨ w = 4 ∨ w = 5 := by omega
  have two : ∀ (w : Int), w < 2 → WS (seqS (sIfS (sTest (sP2 pLt (sV 2) (sC (.int 2)))) (sRet (sTup (sCons (sV 3) (sCons (sV 4) (sCons (sV 5) (sCons (sCall f__law_with_other (sCons (sV 0) (sCons (sV 6) (sNil)))) (sNil))))))) (sNext))
  (seqS (sIfS (sTest (sP2 pEq (sV 2) (sC (.int 2)))) (sRet (sTup (sCons (sV 3) (sCons (sCall f__law_other_store (sCons (sV 0) (sCons (sV 4) (sNil)))) (sCons (sV 5) (sCons (sV 6) (sNil))))))) (sNext))
  (seqS (sIfS (sTest (sP2 pEq (sV 2) (sC (.int 3)))) (sRet (sTup (sCons (sV 3) (sCons (sV 4) (sCons (sPN pTupOf (sCons (sLc (sItr (sV 5)) cg__law_other_log_1 sYes ce__law_other_log_1 [7]) (sNil))) (sCons (sV 6) (sNil))))))) (sNext))
  (sRet (sTup (sCons (sPN pMax (sCons (sC (.int 0)) (sCons (sP2 pSub (sP2 pAdd (sV 3) (sP2 pMul (sC (.int 2)) (sP2 pSub (sV 2) (sC (.int 4))))) (sC (.int 1))) (sNil)))) (sCons (sV 4) (sCons (sV 5) (sCons (sV 6) (sNil)))))))))) [.inn (stt a1 b1), .val (.tuple [.int c, ES, .tuple (G.map encSet), ER]), .val (.int w), .val (.int c), .val ES, .val (.tuple (G.map encSet)), .val ER, .no] (FIN [.inn (stt a b), .val (.tuple [.int c, ES, .tuple (G.map encSet), ER])] nX Q) := by
    intro w hw
    simp! only [hw, decide_true]
    refine hwo _ _ g1 _ fun ms' a2 b2 _ _ g2 => ?_
    simp! only [id_eq]
    have := hq c S G ms' a2 b2 g2
    rw [hL, hES] at this
    exact this
  rcases h6 with e | e | e | e | e | e <;> subst e
  · have := two 0 (by decide)
    simp! only [id_eq] at this ⊢
    exact this
  · have := two 1 (by decide)
    simp! only [id_eq] at this ⊢
    exact this
  · simp! only [id_eq]
    refine hst _ _ g1 _ fun S' a2 b2 g2 => ?_
    simp! only [id_eq]
    have := hq c S' G ms a2 b2 g2
    rw [hL, hER] at this
    exact this
  · simp! only [id_eq]
    refine lcs_inv encSet (fun ρ => ∃ a b, Good a b ∧ ρ = [.inn (stt a b), .val (.tuple [.int c, ES, .tuple (G.map encSet), ER]), .val (.int 3), .val (.int c), .val ES, .val (.tuple (G.map encSet)), .val ER, .no]) (fun y => ∃ s : List Int, y = encSet s) G (by omega) ?_ ⟨a1, b1, g1, rfl⟩ ?_
    · rintro s _ ρ ⟨a, b, g, rfl⟩
      simp! only [cg__law_other_log_1, ce__law_other_log_1]
      refine set_sp g fun B a2 b2 _ _ g2 => ?_
      simp! only [id_eq]
      exact ⟨⟨_, rfl, _, rfl⟩, _, _, g2, rfl⟩
    · rintro ys ρ hl hys ⟨a2, b2, g2, rfl⟩
      obtain ⟨G', rfl⟩ : ∃ G' : List (List Int), ys = G'.map encSet := by
        clear hl
        induction ys with
        | nil => exact ⟨[], rfl⟩
        | cons y ys ih =>
          obtain ⟨s, rfl⟩ := hys y List.mem_cons_self
          obtain ⟨G', rfl⟩ := ih fun z m => hys z (List.mem_cons_of_mem _ m)
          exact ⟨s :: G', rfl⟩
      simp! only [id_eq]
      have := hq c S G' ms a2 b2 g2
      rw [hL, hES, hER] at this
      exact this
  · obtain ⟨n, hn⟩ : ∃ n : Nat, (if 0 < (c : Int) + 0 - 1 then (c : Int) + 0 - 1 else 0) = n := ⟨(if 0 < (c : Int) + 0 - 1 then (c : Int) + 0 - 1 else 0).toNat, by split <;> omega⟩
    simp! only [hn]
    have := hq n S G ms a1 b1 g1
    rw [hL, hES, hER] at this
    exact this
  · obtain ⟨n, hn⟩ : ∃ n : Nat, (if 0 < (c : Int) + 2 - 1 then (c : Int) + 2 - 1 else 0) = n := ⟨(if 0 < (c : Int) + 2 - 1 then (c : Int) + 2 - 1 else 0).toNat, by split <;> omega⟩
    simp! only [hn]
    have := hq n S G ms a1 b1 g1
    rw [hL, hES, hER] at this
    exact this
theorem put_eq {c : Int} {st : PyData} {G : List (List Int)} {rs : List Row} (hl : rs.length ≤ 200) (r : Row) : f_put [.val (encLog c st G rs), .val (encR r)] = .ok (.v (encLog c st G (rs ++ [r]))) [.val (encLog c st G rs), .val (encR r)] := by
  refine eq_fe ?_
  have hz : (rs.map encR).length + 1 ≤ sizeLine := by rw [List.length_map]; exact small6 (by omega)
  have eA : (rs.map encR) ++ [encR r] = (rs ++ [r]).map encR := by rw [List.map_append]; rfl
  generalize encR r = R at eA ⊢
  simp! only [fe_put, b_put, encLog, hz, eA]
theorem first_log_eq (G : List (List Int)) : f_first_log [.val (encGroup G)] = .ok (.v (encLog 0 (encS ([], [])) G [])) [.val (encGroup G)] := by
  refine eq_fe ?_
  generalize hE : encGroup G = E
  simp! only [fe_first_log, b_first_log, fe_of first_store_eq, encLog, hE, List.map_nil]
theorem eqS_refl (S : Store) : eqS S S = true := PySem.SeqAt.eqv_refl_plain _ (plainS S).1
theorem eqG_refl (G : List (List Int)) : eqG G G = true := PySem.SeqAt.eqv_refl_plain _ (plain_group G)
theorem eqR_refl (G : List Row) : eqR G G = true := PySem.SeqAt.eqv_refl_plain _ (plain_T G)
abbrev Lg := Nat × Store × List (List Int) × List Row
def encLg (p : Lg) : PyData := encLog p.1 (encS p.2.1) p.2.2.1 p.2.2.2
abbrev Pr := List (List Int) × List Row
def encPr (p : Pr) : PyData := .tuple [encGroup p.1, .tuple (p.2.map encR)]
theorem cell_sp {ns : List Int} {k : Nat} {Q : Op → En → Prop} (hl : ns.length ≤ 63) (hq : ∀ c, Q (.v (.int c)) [.val (script ns), .val (.int k)]) : FE f__law_cell_at [.val (script ns), .val (.int k)] nX Q := by
  simp! only [fe__law_cell_at, b__law_cell_at, script, List.length_map]
  by_cases h : (k : Int) < (ns.length : Nat)
  · have hk : k < ns.length := by omega
    have ea : atI (ns.map PyData.int) (k : Int) = some (.int ns[k]) := by rw [atI_nat (by rw [List.length_map]; exact hk)]; simp
    simp! only [h, decide_true, ea]
    exact hq _
  · simp! only [h, decide_false]
    exact hq _
theorem law_true (ns : List Int) (hl : ns.length ≤ 63) : ∃ outs, f_law [.val (script ns)] = .ok (.v (.bool true)) outs := by
  have H : FE f_law [.val (script ns)] nX fun o _ => o = .v (.bool true) := by
    simp! only [fe_law, b_law]
    refine cell_sp (k := 0) hl fun c0 => ?_
    simp! only [id_eq]
    refine state_sp (by decide) (by decide) fun a b g => ?_
    simp! only [id_eq]
    refine group_sp g fun G a1 b1 hG hs g1 => ?_
    have e : pSl (script ns) (some 2) (some 100) = some (.fr (.list (((ns.drop 2).take 98).map PyData.int))) := by
      show some (Op.fr (.list (cutD (ns.map PyData.int) (some ((2 : Nat) : Int)) (some ((100 : Nat) : Int))))) = _
      rw [cutD_mid, List.map_take, List.map_drop]
    simp! only [e]
    refine rows_sp (by decide) (by decide) (by rw [List.length_take, List.length_drop]; omega) hG fun rs hrl hr ha => ?_
    have hrs : rs.length ≤ 61 := by rw [hrl, List.length_take, List.length_drop]; omega
    have hfl := first_log_eq G
    simp! only [fe_of hfl]
    generalize hT : PyData.tuple (rs.map encR) = T
    generalize hEG : encGroup G = EG
    refine wf_inv encR rs (fun pre ρ => ρ = [.val (script ns), .no, .val EG, .val T, .val (encLog 0 (encS ([], [])) G pre), .no, .no, .no, .no, .no, .no, .no, .no, .no, .no, .no, .no]) ?_ ?_ rfl
    · rintro pre r post hx ρ rfl
      have hp : pre.length + 1 ≤ rs.length := by rw [← hx, List.length_append, List.length_cons]; omega
      have hput := put_eq (c := 0) (st := encS ([], [])) (G := G) (rs := pre) (by omega) r
      generalize encR r = R at hput
      simp! only [g_law_1, l_law_1, fe_of hput]
    rintro ρ rfl
    simp! only [id_eq]
    refine cell_sp (k := 1) hl fun c1 => ?_
    simp! only [id_eq]
    refine state_sp (by decide) (by decide) fun a2 b2 g2 => ?_
    simp! only [rg_lit (M := 2) (by decide), rng_nat]
    have hwhole : ∀ k : Nat, f_cut_at [.val (encLog 0 (encS ([], [])) G rs), .val (.int k)] = .ok (.v (encLg (k, (rs.take k).foldl dn ([], []), led G (rs.take k), rs.drop k))) [.val (encLog 0 (encS ([], [])) G rs), .val (.int k)] := fun k => by
      have := cut_at_eq (c := 0) ok0 (show 0 + rs.length ≤ 400 by omega) hG ha k
      rw [Int.zero_add] at this
      exact this
    have hbeh : ∀ k : Nat, f__law_behind [.val (encS ([], [])), .val (.tuple ((rs.take k).map encR))] = .ok (.v (encS ((rs.take k).foldl dn ([], [])))) [.val (encS ([], [])), .val (.tuple ((rs.take k).map encR))] := fun k => behind_eq ok0 (by rw [List.length_take]; omega)
    have hled : ∀ k : Nat, f__law_led [.val EG, .val (.tuple ((rs.take k).map encR))] = .ok (.v (encGroup (led G (rs.take k)))) [.val EG, .val (.tuple ((rs.take k).map encR))] := fun k => by
      have := led_eq hG (LetA.take k _ rs ha)
      rw [hEG] at this; exact this
    have cT : ∀ k : Nat, pSl T none (some (k : Int)) = some (.v (.tuple ((rs.take k).map encR))) := fun k => by
      rw [← hT]; show some (Op.v (.tuple (cutD (rs.map encR) none (some (k : Int))))) = _
      rw [cutD_to, List.map_take]
    have cM : ∀ a b : Nat, pSl T (some (a : Int)) (some (b : Int)) = some (.v (.tuple (((rs.drop a).take (b - a)).map encR))) := fun a b => by
      rw [← hT]; show some (Op.v (.tuple (cutD (rs.map encR) (some (a : Int)) (some (b : Int))))) = _
      rw [cutD_mid, List.map_take, List.map_drop]
    have lT : pLen [T] = some (.v (.int (rs.length : Nat))) := by
      have q : pLen [.tuple (rs.map encR)] = some (.v (.int ((rs.map encR).length : Nat))) := nr (by with_unfolding_all rfl)
      rw [← hT, q, List.length_map]
    have iG : ∀ (X : XQ) ρ (Q : List PyData × List Op → En → Prop), WE (itO (.v EG)) ρ X Q = Q (G.map encSet, []) ρ := fun X ρ Q => by rw [← hEG]; unfold encGroup; exact zq19
    have e00 : PyData.tuple [.tuple [], .tuple []] = encS ([], []) := rfl
    have hw : ∀ (a b : Int), Good a b → ∀ Q : Op → En → Prop, (∀ (rs' : List Row) (a' b' : Int), rs'.length = rs.length → (∀ m, LetA m rs → LetA m rs') → Good a' b' → Q (.v (.tuple (rs'.map encR))) [.inn (stt a' b'), .val T]) → FE f__law_with_other [.inn (stt a b), .val T] nX Q := fun a b g Q h => by
      have := with_other_sp (a := a) (b := b) (rs := rs) (Q := Q) g (by omega)
      rw [hT] at this; exact this h
    have hagree : ∀ (p : Lg) (q : Pr), q.2.length ≤ 200 → (q.1.length = 1 ∨ q.1.length = 2) → LetA q.1.length q.2 → f_does_agree [.val (encLg p), .val (encGroup q.1), .val (.tuple (q.2.map encR))] = .ok (.v (.bool (agr p.1 p.2.1 p.2.2.1 p.2.2.2 q.1 q.2))) [.val (encLg p), .val (encGroup q.1), .val (.tuple (q.2.map encR))] := fun p q h1 h2 h3 => agree_eq h1 h2 h3
    have hagrees : ∀ (p : Lg) (q : Pr), q.2.length ≤ 200 → (q.1.length = 1 ∨ q.1.length = 2) → LetA q.1.length q.2 → f__law_agrees [.val (encLg p), .val (encGroup q.1), .val (.tuple (q.2.map encR))] = .ok (.v (.bool (agr p.1 p.2.1 p.2.2.1 p.2.2.2 q.1 q.2))) [.val (encLg p), .val (encGroup q.1), .val (.tuple (q.2.map encR))] := fun p q h1 h2 h3 => agrees_eq h1 h2 h3
    have hmine := fun (p : Lg) => hagree p (G, rs) (by dsimp only; omega) hG ha
    dsimp only at hmine
    rw [hEG, hT] at hmine
    generalize encLog 0 (encS ([], [])) G rs = WH at hwhole
    refine wf_all (fun (i : Nat) => .int i) (List.range 2) (fun ρ => ∃ a b, Good a b ∧ ρ = [.val (script ns), .own (stt a b), .val EG, .val T, .val WH, .no, .no, .no, .no, .no, .no, .no, .no, .no, .no, .no, .no]) ?_ ?_ ⟨a2, b2, g2, rfl⟩
    · rintro i _ ρ ⟨a, b, g, rfl⟩
      simp! only [g_law_4, l_law_4, lT]
      refine next_sp g (by omega) (by omega) fun r a1 b1 r0 r1 g1 => ?_
      obtain ⟨k, rfl⟩ : ∃ k : Nat, r = k := ⟨r.toNat, by omega⟩
      have hk : k ≤ rs.length := by omega
      simp! only [lT]
      refine next_sp g1 (by omega) (by omega) fun r a3 b3 r0 r1 g3 => ?_
      obtain ⟨m, hm⟩ : ∃ m : Nat, (k : Int) + r = m := ⟨((k : Int) + r).toNat, by omega⟩
      have hkm : k ≤ m ∧ m ≤ rs.length := by omega
      simp! only [hm, cT, cM, e00, fe_of (hbeh k), fe_of (hled k)]
      have eL : PyData.tuple [.int k, encS ((rs.take k).foldl dn ([], [])), encGroup (led G (rs.take k)), .tuple (((rs.drop k).take (m - k)).map encR)] = encLg (k, (rs.take k).foldl dn ([], []), led G (rs.take k), (rs.drop k).take (m - k)) := rfl
      rw [eL]
      have hb := behind_led (rs.take k) G hG (LetA.take k _ rs ha)
      have okk : SOk ((rs.take k).foldl dn ([], [])) 200 := fold_ok _ ok0 (by rw [List.length_take]; omega)
      simp! only [fe_of (hwhole k)]
      unfold encLg
      refine other_log_sp g3 (by have := okk.lv; dsimp only; omega) (by have := okk.lt; dsimp only; omega) (by rw [List.length_take, List.length_drop]; omega) (by dsimp only; omega) fun c' S' G' ms' a4 b4 g4 => ?_
      have eLs : [encLog ((k : Nat) : Int) (encS ((rs.take k).foldl dn ([], []))) (led G (rs.take k)) ((rs.drop k).take (m - k)), encLog ((k : Nat) : Int) (encS ((rs.take k).foldl dn ([], []))) (led G (rs.take k)) (rs.drop k), encLog (c' : Int) (encS S') G' ms'] = ([(k, (rs.take k).foldl dn ([], []), led G (rs.take k), (rs.drop k).take (m - k)), (k, (rs.take k).foldl dn ([], []), led G (rs.take k), rs.drop k), (c', S', G', ms')] : List Lg).map encLg := rfl
      have r1 : agr k ((rs.take k).foldl dn ([], [])) (led G (rs.take k)) (rs.drop k) G rs = true := by
        unfold agr
        rw [eqS_refl, eqG_refl, List.length_drop, List.take_of_length_le (by rw [List.length_drop]; exact Nat.le_refl _), eqR_refl, decide_eq_true (by omega)]; rfl
      have r2 : agr k ((rs.take k).foldl dn ([], [])) (led G (rs.take k)) ((rs.drop k).take (m - k)) G rs = true := by
        unfold agr
        have e1 : ((rs.drop k).take (m - k)).length = m - k := by rw [List.length_take, List.length_drop]; omega
        rw [eqS_refl, eqG_refl, e1, eqR_refl, decide_eq_true (by omega)]; rfl
      have h1 := hmine (k, (rs.take k).foldl dn ([], []), led G (rs.take k), rs.drop k)
      have h2 := hmine (k, (rs.take k).foldl dn ([], []), led G (rs.take k), (rs.drop k).take (m - k))
      dsimp only at h1 h2
      rw [r1] at h1
      rw [r2] at h2
      simp! only [eLs]
      have eL1 : encLog ((k : Nat) : Int) (encS ((rs.take k).foldl dn ([], []))) (led G (rs.take k)) ((rs.drop k).take (m - k)) = encLg (k, (rs.take k).foldl dn ([], []), led G (rs.take k), (rs.drop k).take (m - k)) := rfl
      rw [eL1]
      generalize encLg (k, (rs.take k).foldl dn ([], []), led G (rs.take k), (rs.drop k).take (m - k)) = L9 at h2 ⊢
      refine wf_all encLg _ (fun ρ => ∃ a b, Good a b ∧ ρ = [.val (script ns), .own (stt a b), .val EG, .val T, .val WH, .no, .val (.int i), .val (.int k), .val (.int m), .val L9, .no, .no, .no, .no, .no, .no, .no]) ?_ ?_ ⟨a4, b4, g4, rfl⟩
      · rintro p _ ρ ⟨a, b, g, rfl⟩
        simp! only [g_law_3, l_law_3, iG]
        refine lcs_inv encSet (fun ρ => ∃ a b, Good a b ∧ ρ = [.val (script ns), .own (stt a b), .val EG, .val T, .val WH, .no, .val (.int i), .val (.int k), .val (.int m), .val L9, .val (encLg p), .no, .no, .no, .no, .no, .no]) (fun y => ∃ s : List Int, y = encSet s) G (by omega) ?_ ⟨a, b, g, rfl⟩ ?_
        · rintro s _ ρ ⟨a, b, g, rfl⟩
          simp! only [cg_law_1, ce_law_1]
          refine set_sp g fun B a2 b2 _ _ g2 => ?_
          simp! only [id_eq]
          exact ⟨⟨_, rfl, _, rfl⟩, _, _, g2, rfl⟩
        rintro ys ρ hyl hys ⟨a5, b5, g5, rfl⟩
        obtain ⟨F, rfl⟩ : ∃ F : List (List Int), ys = F.map encSet := by
          clear hyl
          induction ys with
          | nil => exact ⟨[], rfl⟩
          | cons y ys ih =>
            obtain ⟨s, rfl⟩ := hys y List.mem_cons_self
            obtain ⟨G', rfl⟩ := ih fun z m => hys z (List.mem_cons_of_mem _ m)
            exact ⟨s :: G', rfl⟩
        rw [List.length_map] at hyl
        obtain ⟨n, hn⟩ : ∃ n : Nat, (if 0 < (m : Int) - 1 then (m : Int) - 1 else 0) = n := ⟨(if 0 < (m : Int) - 1 then (m : Int) - 1 else 0).toNat, by split <;> omega⟩
        have eF : PyData.tuple (F.map encSet) = encGroup F := rfl
        have ePs : ∀ rs' : List Row, [PyData.tuple [EG, T], .tuple [EG, .tuple ((rs.take m).map encR)], .tuple [EG, .tuple ((rs.take n).map encR)], .tuple [encGroup F, T], .tuple [EG, .tuple (rs'.map encR)]] = ([(G, rs), (G, rs.take m), (G, rs.take n), (F, rs), (G, rs')] : List Pr).map encPr := fun rs' => by
          rw [← hEG, ← hT]; rfl
        simp! only [cT, hn, eF]
        refine hw _ _ g5 _ fun rs' a6 b6 hl' hk' g6 => ?_
        have hz : 4 + 1 ≤ sizeLine := by decide
        simp! only [hz, show 5 ≤ sizeLine from by decide, ePs]
        refine wf_all encPr _ (fun ρ => ρ = [.val (script ns), .own (stt a6 b6), .val EG, .val T, .val WH, .no, .val (.int i), .val (.int k), .val (.int m), .val L9, .val (encLg p), .no, .own (.list (([(G, rs), (G, rs.take m), (G, rs.take n), (F, rs)] : List Pr).map encPr)), .no, .no, .no, .no]) ?_ ?_ ?_
        · rintro q mq ρ rfl
          obtain ⟨q1, q2, q3⟩ : q.2.length ≤ 200 ∧ (q.1.length = 1 ∨ q.1.length = 2) ∧ LetA q.1.length q.2 := by
            simp only [List.mem_cons, List.not_mem_nil, or_false] at mq
            rcases mq with e | e | e | e | e <;> rw [e] <;> dsimp only
            · exact ⟨by omega, hG, ha⟩
            · exact ⟨by rw [List.length_take]; omega, hG, LetA.take _ _ _ ha⟩
            · exact ⟨by rw [List.length_take]; omega, hG, LetA.take _ _ _ ha⟩
            · exact ⟨by omega, by rw [hyl]; exact hG, by rw [hyl]; exact ha⟩
            · exact ⟨by omega, hG, hk' _ ha⟩
          have x1 := hagree p q q1 q2 q3
          have x2 := hagrees p q q1 q2 q3
          generalize encLg p = LP at x1 x2 ⊢
          unfold encPr
          simp! only [g_law_2, l_law_2, fe_of x1, fe_of x2, bne_self_eq_false]
        · rintro ρ rfl
          simp! only [id_eq]
          exact ⟨_, _, g6, rfl⟩
        · rw [← hEG, ← hT]; rfl
      · rintro ρ ⟨a, b, g, rfl⟩
        have e3 : encLg (k, (rs.take k).foldl dn ([], []), led G (rs.take k), rs.drop k) = encLg (k, (rs.take k).foldl dn ([], []), led G (rs.take k), rs.drop k) := rfl
        simp! only [fe_of (hwhole k), fe_of h1, fe_of h2]
        exact ⟨_, _, g, rfl⟩
    · rintro ρ ⟨a, b, g, rfl⟩
      simp! only [id_eq]
  obtain ⟨o, outs, e, rfl⟩ := of_fe H
  exact ⟨outs, e⟩
end k34
end Py
end L2

open PySem PySem.W PyProof.Rows
set_option maxHeartbeats 0 in
theorem PySem.Challenge.cw_oathlog_k34_whole_logs_agree_holds : PySem.Challenge.rw_oathlog_k34_whole_logs_agree.Holds := by
  w_on; o_law; k_head; (case hw => w_witness2)
  k_fill
  refine L2.walk_of (l := PySem.Challenge.rw_oathlog_k34_whole_logs_agree) (n := 63) (k := 8) (x := "_law_script") (CX := fun _ => L2.CX0) (sp := fun w => L2.Py.spF _ 1 L2.Py.k34.f_law) rfl (by decide) rfl ⟨rfl, by decide, by decide⟩ (fun w h Y => PySem.W.kIn_of Y) ?F (fun _ _ a ns hl _ hS => L2.Py.law_end L2.Py.k34.law_true hl hS) (fun _ _ _ _ _ h => h)
  case F =>
    intro w mg fa h KX G hmg
    refine' L2.Py.k34.all_mk KX G hmg ?a0 ?l0 ?c0 ?k0 ?a1 ?l1 ?c1 ?k1 ?a2 ?l2 ?c2 ?k2 ?a3 ?l3 ?c3 ?k3 ?a4 ?l4 ?c4 ?k4 ?a5 ?l5 ?c5 ?k5 ?a6 ?l6 ?c6 ?k6 ?a7 ?l7 ?c7 ?k7 ?a8 ?l8 ?c8 ?k8 ?a9 ?l9 ?c9 ?k9 ?a10 ?l10 ?c10 ?k10 ?a11 ?l11 ?c11 ?k11 ?a12 ?l12 ?c12 ?k12 ?a13 ?l13 ?c13 ?k13 ?a14 ?l14 ?c14 ?k14 ?a15 ?l15 ?c15 ?k15 ?a16 ?l16 ?c16 ?k16 ?a17 ?l17 ?c17 ?k17 ?a18 ?l18 ?c18 ?k18 ?a19 ?l19 ?c19 ?k19 ?a20 ?l20 ?c20 ?k20 ?a21 ?l21 ?c21 ?k21 ?a22 ?l22 ?c22 ?k22 ?a23 ?l23 ?c23 ?k23 ?a24 ?l24 ?c24 ?k24 ?a25 ?l25 ?c25 ?k25 ?a26 ?l26 ?c26 ?k26 ?a27 ?l27 ?c27 ?k27 ?a28 ?l28 ?c28 ?k28 ?a29 ?l29 ?c29 ?k29 ?a30 ?l30 ?c30 ?k30 ?a31 ?l31 ?c31 ?k31 ?a32 ?l32 ?c32 ?k32 ?a33 ?l33 ?c33 ?k33 ?a34 ?l34 ?c34 ?k34 ?a35 ?l35 ?c35 ?k35 ?a36 ?l36 ?c36 ?k36 ?z_bool ?z_dict ?z_enumerate ?z_isinstance ?z_len ?z_list ?z_max ?z_range ?z_sorted ?z_tuple
    (case a0 => k_is); (case l0 => k_is); (case c0 => k_is); (case k0 => k_is); (case a1 => k_is); (case l1 => k_is); (case c1 => k_is); (case k1 => k_is); (case a2 => k_is); (case l2 => k_is); (case c2 => k_is); (case k2 => k_is); (case a3 => k_is); (case l3 => k_is); (case c3 => k_is); (case k3 => k_is); (case a4 => k_is); (case l4 => k_is); (case c4 => k_is); (case k4 => k_is); (case a5 => k_is); (case l5 => k_is); (case c5 => k_is); (case k5 => k_is); (case a6 => k_is); (case l6 => k_is); (case c6 => k_is); (case k6 => k_is); (case a7 => k_is); (case l7 => k_is); (case c7 => k_is); (case k7 => k_is); (case a8 => k_is); (case l8 => k_is); (case c8 => k_is); (case k8 => k_is); (case a9 => k_is); (case l9 => k_is); (case c9 => k_is); (case k9 => k_is); (case a10 => k_is); (case l10 => k_is); (case c10 => k_is); (case k10 => k_is); (case a11 => k_is); (case l11 => k_is); (case c11 => k_is); (case k11 => k_is); (case a12 => k_is); (case l12 => k_is); (case c12 => k_is); (case k12 => k_is); (case a13 => k_is); (case l13 => k_is); (case c13 => k_is); (case k13 => k_is); (case a14 => k_is); (case l14 => k_is); (case c14 => k_is); (case k14 => k_is); (case a15 => k_is); (case l15 => k_is); (case c15 => k_is); (case k15 => k_is); (case a16 => k_is); (case l16 => k_is); (case c16 => k_is); (case k16 => k_is); (case a17 => k_is); (case l17 => k_is); (case c17 => k_is); (case k17 => k_is); (case a18 => k_is); (case l18 => k_is); (case c18 => k_is); (case k18 => k_is); (case a19 => k_is); (case l19 => k_is); (case c19 => k_is); (case k19 => k_is); (case a20 => k_is); (case l20 => k_is); (case c20 => k_is); (case k20 => k_is); (case a21 => k_is); (case l21 => k_is); (case c21 => k_is); (case k21 => k_is); (case a22 => k_is); (case l22 => k_is); (case c22 => k_is); (case k22 => k_is); (case a23 => k_is); (case l23 => k_is); (case c23 => k_is); (case k23 => k_is); (case a24 => k_is); (case l24 => k_is); (case c24 => k_is); (case k24 => k_is); (case a25 => k_is); (case l25 => k_is); (case c25 => k_is); (case k25 => k_is); (case a26 => k_is); (case l26 => k_is); (case c26 => k_is); (case k26 => k_is); (case a27 => k_is); (case l27 => k_is); (case c27 => k_is); (case k27 => k_is); (case a28 => k_is); (case l28 => k_is); (case c28 => k_is); (case k28 => k_is); (case a29 => k_is); (case l29 => k_is); (case c29 => k_is); (case k29 => k_is); (case a30 => k_is); (case l30 => k_is); (case c30 => k_is); (case k30 => k_is); (case a31 => k_is); (case l31 => k_is); (case c31 => k_is); (case k31 => k_is); (case a32 => k_is); (case l32 => k_is); (case c32 => k_is); (case k32 => k_is); (case a33 => k_is); (case l33 => k_is); (case c33 => k_is); (case k33 => k_is); (case a34 => k_is); (case l34 => k_is); (case c34 => k_is); (case k34 => k_is); (case a35 => k_is); (case l35 => k_is); (case c35 => k_is); (case k35 => k_is); (case a36 => k_is); (case l36 => k_is); (case c36 => k_is); (case k36 => k_is); (case z_bool => k_is); (case z_dict => k_is); (case z_enumerate => k_is); (case z_isinstance => k_is); (case z_len => k_is); (case z_list => k_is); (case z_max => k_is); (case z_range => k_is); (case z_sorted => k_is); (case z_tuple => k_is)

