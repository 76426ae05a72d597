import PyProof.Rows.All
import Wide.All
import OpenK.AllK
import Wide.FinOn
import HandS.ForMost
import HandS.Exc
import HandS.TryOnly
import HandS.ExcOwn
import HandS.WordsExc
import HandS.Deep
import HandS.TupAny
import KE.KDictKeyed
import KE.DataEq
import KE.DataCmp
import KE.DataIsa
import KE.DataFind
import KE.DataAny
import KE.SortData
import HandS.TupMul
import HandS.Flow
import HandS.IsInst
import HandS.Text
import HandS.NoneIn
import HandS.Iter
import HandS.Zip
import HandS.Dict
import HandS.WordsDict
import KE.KDictCopyH
import KE.KDictSum
import PyProof.Transfer
import HandS.More
import KE.KUnpackStar
import KE.KDictPairs
import HandS.DictComp
import KE.GoesMore
import KE.DatumIndex
import PyProof.SliceList
import PyProof.ReprRoads
import HandS.SetBool
import HandS.SetKeys
import KE.KStateDown
import HandS.Defaults
import HandS.Head0
import HandS.Head1
import HandS.Head2
import HandS.HeadEnd
import HandS.HeadHook1
import HandS.HeadHook2
import HandS.HeadHook3
import PySem.Challenge.RW_lorewide_k10_least_rows_and_kinds
set_option Elab.async false
set_option linter.all false
set_option maxRecDepth 100000
set_option maxHeartbeats 1000000
set_option autoImplicit false
namespace PD
open PySem L2 PySem.Spec PyProof.Rows

/-! PD0: tuples of which it is known that their object has no dict of its own: they stand frozen. -/

abbrev TupC (K : PySem.W.Frag) (H : Hp) (a : Addr) (xs : List V) : Prop :=
  (∃ o, H a = some (.frz o (.tup xs)) ∧ o.dict = none) ∨ ∃ (o : Obj) (its : Array Value) (n : Nat), K.lookup a = some o ∧ o.cls = .type "tuple" ∧ o.dict = none ∧ o.data = .seq its n ∧ its.size ≤ sizeLine ∧ Vals xs its.toList
theorem tupC_sq {K : PySem.W.Frag} {H : Hp} {a : Addr} {xs : List V} (h : TupC K H a xs) : SqT K H a xs := by
  rcases h with ⟨o, h, _⟩ | ⟨o, its, n, h1, h2, _, h3⟩
  · exact .inl (.inr ⟨o, h⟩)
  · exact .inr ⟨o, its, n, h1, h2, h3⟩
theorem tupC_new {K : PySem.W.Frag} {H : Hp} {p : Addr} {ob : Obj} {xs : List V} (h : ob.dict = none) : TupC K (upd H p (.frz ob (.tup xs))) p xs := .inl ⟨ob, upd_same, h⟩
section
variable {X : Cx} {pins : List (Addr × Obj)} {σ : L2.St} {H : Hp} {s : Shared}
/-- the raw object -/
theorem tupC_raw {a : Addr} {xs : List V} (I : Inv X pins σ H s) (h : TupC X.K H a xs) : ∃ (o : Obj) (its : List Value) (n : Nat), s.heap.get? a = some o ∧ o.cls = .type "tuple" ∧ o.dict = none ∧ o.data = .seq its.toArray n ∧ Vals xs its ∧ xs.length ≤ sizeLine := by
  rcases h with ⟨o, h, hd⟩ | ⟨o, its, n, h1, h2, hd, h3, hz, r⟩
  · obtain ⟨e, z, its, r, o', e', hc, n, hdat⟩ := (show ObjOk X.prog X.w H s.heap a (.frz o (.tup xs)) from I.hok a _ h)
    rw [e] at e'; cases e'
    exact ⟨o, its, n, e, hc, hd, hdat, r, z⟩
  · refine ⟨o, its.toList, n, I.kIn a o h1, h2, hd, by simpa using h3, r, ?_⟩
    have e := r.length
    simp only [Array.length_toList] at e
    omega
theorem lay_tup {xs : List V} {us : List Value} (I : Inv X pins σ H s) (r : Vals xs us) (z : xs.length ≤ sizeLine) :
    Inv X pins σ (upd H s.heap.objs.size (.frz { cls := .type "tuple", data := .seq us.toArray } (.tup xs))) { s with heap := s.heap.push { cls := .type "tuple", data := .seq us.toArray } } :=
  I.laid (t' := s.toks) (fun b u e => Heap.get?_push_of_some _ e) (Nat.le_refl _) ⟨Heap.get?_push_size _ rfl, z, us, r, IsTup.new _ _⟩
/-- (e, ..) -/
def tTupC (t : TA) : TE := fun σ H Q => t σ H fun xs H1 => xs.length ≤ sizeLine ∧ ∀ p ob, H1 p = none → ob.dict = none → Q (.ref p) (upd H1 p (.frz ob (.tup xs)))
theorem pe_tupC {es : List Expr} {t : TA} {x1 : Nat} {pos : Pos} (h : PA X es t) : PE X (.Tuple es x1 pos) (tTupC t) := by
  refine ⟨fun pins s σ H Q I hq => wpAny_Tuple_spliced (thn (h.run pos pins s σ H _ I hq) fun us s1 ⟨xs, H1, I1, r, z, q⟩ => ⟨by rw [← r.length]; exact z, ?_⟩)⟩
  exact ⟨.ref s1.heap.objs.size, _, lay_tup I1 r z, rfl, q _ _ (I1.hok.fresh (Nat.le_refl _)) rfl⟩
theorem call_tupleC : CallR X (.type "tuple") (fun xs H Q => ∃ p ys, xs = [.ref p] ∧ ((SqL X.K H p ys ∧ ∀ l ob, H l = none → ob.dict = none → Q (.ref l) (upd H l (.frz ob (.tup ys)))) ∨ (SqT X.K H p ys ∧ Q (.ref p) H))) := by
  intro pins s σ H xs us Q I r h
  obtain ⟨p, ys, rfl, h⟩ := h
  obtain ⟨u, rfl, rx⟩ := vals1 r
  cases rx
  rcases h with ⟨hq, q⟩ | ⟨hq, q⟩
  · obtain ⟨its, r', pl, hz⟩ := I.list hq
    have hlen := r'.length
    refine call_tuple_list pl.isList (fun h' kp => ?_) (by simp only [List.size_toArray] <;> omega)
    have I1 : Inv X pins σ H { s with heap := h' } := I.kept (t' := s.toks) kp
    exact ⟨.ref h'.objs.size, _, lay_tup I1 r' hz, rfl, q _ _ (I1.hok.fresh (Nat.le_refl _)) rfl⟩
  · obtain ⟨its, r', pl, hz⟩ := I.tuple hq
    exact call_tuple_same pl ⟨.ref p, H, I, rfl, q⟩
/-- t + u -/
def rCatC (K : PySem.W.Frag) : R2 := fun x y H Q => ∃ a b xs ys, x = .ref a ∧ y = .ref b ∧ SqT K H a xs ∧ SqT K H b ys ∧ xs.length + ys.length ≤ sizeLine ∧
  (xs = [] → Q (.ref b) H) ∧ (xs ≠ [] → ys = [] → Q (.ref a) H) ∧ (xs ≠ [] → ys ≠ [] → ∀ p ob, H p = none → ob.dict = none → Q (.ref p) (upd H p (.frz ob (.tup (xs ++ ys)))))
theorem op_catC : OpR X (binaryOp .Add) (rCatC X.K) := by
  intro pins s σ H x y v u Q I rx ry h
  obtain ⟨a, b, xs, ys, rfl, rfl, ha, hb, hz, q0, q1, q2⟩ := h
  cases rx
  cases ry
  obtain ⟨its, r1, p1, _⟩ := I.tuple ha
  obtain ⟨its2, r2, p2, _⟩ := I.tuple hb
  by_cases hx : xs = []
  · subst hx
    cases r1
    exact cat_tup0 p1 p2 ⟨.ref b, H, I, rfl, q0 rfl⟩
  · refine HT.cat_tup p1 p2 (fun z => hx (r1.nil_iff.mp z)) (fun z => ⟨.ref a, H, I, rfl, q1 hx (r2.nil_iff.mp z)⟩) (fun z => ?_) (by rw [← r1.length, ← r2.length]; exact hz)
    exact ⟨.ref s.heap.objs.size, _, lay_tup I (r1.append r2) (by rw [List.length_append]; exact hz), rfl, q2 hx (fun w => z (r2.nil_iff.mpr w)) _ _ (I.hok.fresh (Nat.le_refl _)) rfl⟩
/-- t[lo:hi] -/
def rSlC (K : PySem.W.Frag) : V → Option Int → Option Int → Hp → VK → Prop := fun x lo hi H Q => ∃ a xs, x = .ref a ∧ SqT K H a xs ∧
  (HT.sIx xs.length 0 lo = 0 ∧ HT.sIx xs.length xs.length hi = xs.length → Q (.ref a) H) ∧ (¬ (HT.sIx xs.length 0 lo = 0 ∧ HT.sIx xs.length xs.length hi = xs.length) → ∀ p ob, H p = none → ob.dict = none → Q (.ref p) (upd H p (.frz ob (.tup (cutV xs lo hi)))))
theorem sl_tupC : SlR X (rSlC X.K) := by
  intro pins s σ H x v vl vu lo hi sl Q I rx hs pl pu h
  obtain ⟨a, xs, rfl, hx, q1, q2⟩ := h
  cases rx
  obtain ⟨its, r, ht, hz⟩ := I.tuple hx
  have hlen : its.toArray.size = xs.length := by rw [List.size_toArray]; exact r.length.symm
  refine ⟨"tuple", _, PyProof.Rows.slot_tuple_getitem.lookup, ht.typeIs, ?_⟩
  by_cases hw : HT.sIx xs.length 0 lo = 0 ∧ HT.sIx xs.length xs.length hi = xs.length
  · exact getItem_tuple_whole ht hs pl pu (by rw [hlen]; exact hw) ⟨.ref a, H, I, rfl, q1 hw⟩
  · refine HT.getItem_tuple_cut ht hs pl pu (by rw [hlen]; exact hw) ?_ (by rw [hlen]; exact hz)
    rw [hlen]
    exact ⟨.ref s.heap.objs.size, _, lay_tup I ((r.drop (HT.sIx xs.length 0 lo)).take (HT.sIx xs.length xs.length hi - HT.sIx xs.length 0 lo)) (Nat.le_trans (cutV_length xs lo hi) hz), rfl, q2 hw _ _ (I.hok.fresh (Nat.le_refl _)) rfl⟩
end
end PD

set_option Elab.async false
set_option linter.all false
set_option maxRecDepth 100000
set_option maxHeartbeats 1000000
set_option autoImplicit false
namespace PD
open PySem L2

/-! PD: pure data. What an expression makes of the data in its slots, with the heap out of sight. -/

structure Kt where
  K : PySem.W.Frag
  P : Program
  w : World
abbrev kt (X : Cx) : Kt := { K := X.K, P := X.prog, w := X.w }

def Sub (F H : Hp) : Prop := ∀ a o, F a = some o → H a = some o
theorem Sub.rfl' {H : Hp} : Sub H H := fun _ _ h => h
theorem Sub.tr {A B C : Hp} (x : Sub A B) (y : Sub B C) : Sub A C := fun a o h => y a o (x a o h)
theorem Sub.none {F H : Hp} (x : Sub F H) {a : Addr} (h : H a = Option.none) : F a = Option.none := by
  cases q : F a with
  | none => rfl
  | some o => rw [x a o q] at h; cases h
theorem Sub.new {H : Hp} {p : Addr} {o : HO} (h : H p = Option.none) : Sub H (upd H p o) := fun a u e => by
  rw [upd_ne (ne_of_none e h)]; exact e
theorem Sub.add {F H : Hp} {p : Addr} {o : HO} (x : Sub F H) (h : H p = some o) : Sub (upd F p o) H := fun a u e => by
  by_cases q : a = p
  · subst q; rw [upd_same] at e; cases e; exact h
  · rw [upd_ne q] at e; exact x a u e
theorem Sub.mk {F : Hp} {p : Addr} {o : HO} (h : F p = Option.none) : Sub F (upd F p o) := Sub.new h
theorem Sub.wr {F H : Hp} {p : Addr} {o : HO} (x : Sub F H) (h : F p = Option.none) : Sub F (upd H p o) := fun a u e => by
  rw [upd_ne (ne_of_none e h)]; exact x a u e
theorem sub_l {K : PySem.W.Frag} {F H : Hp} {a : Addr} {xs : List V} (e : Sub F H) (h : SqL K F a xs) : SqL K H a xs := by
  rcases h with (h | ⟨o, h⟩) | h
  · exact .inl (.inl (e _ _ h))
  · exact .inl (.inr ⟨o, e _ _ h⟩)
  · exact .inr h
theorem sub_c {K : PySem.W.Frag} {F H : Hp} {a : Addr} {xs : List V} (e : Sub F H) (h : TupC K F a xs) : TupC K H a xs := by
  rcases h with ⟨o, h, d⟩ | h
  · exact .inl ⟨o, e _ _ h, d⟩
  · exact .inr h
theorem sub_r {F H : Hp} {a : Addr} {u : HO} (e : Sub F H) (h : Rd F a u) : Rd H a u := by
  rcases h with h | ⟨o, h⟩
  · exact .inl (e _ _ h)
  · exact .inr ⟨o, e _ _ h⟩
theorem sub_t {K : PySem.W.Frag} {F H : Hp} {a : Addr} {xs : List V} (e : Sub F H) (h : SqT K F a xs) : SqT K H a xs := by
  rcases h with (h | ⟨o, h⟩) | h
  · exact .inl (.inl (e _ _ h))
  · exact .inl (.inr ⟨o, e _ _ h⟩)
  · exact .inr h

/-! ### data in the heap -/
def kD : Key → PyData
  | .inl i => .int i
  | .inr x => .str x
def exo (a : Addr) (o : Obj) : HO := .ext fun h => h.get? a = some o
/-- a key of a dict whose keys are tuples -/
def nkAll (f : PyData → NestedKey) : List PyData → List NestedKey
  | [] => []
  | d :: ds => f d :: nkAll f ds
mutual
def nk : PyData → NestedKey
  | .none => .none
  | .bool b => .num (if b = true then 1 else 0)
  | .int i => .num i
  | .str x => .text x
  | .tuple ds => .tup (nks ds)
  | .list _ => .none
  | .dict _ => .none
def nks : List PyData → List NestedKey
  | [] => []
  | d :: ds => nk d :: nks ds
end
mutual
/-- no list, no dict -/
def hsh : PyData → Bool
  | .none => true
  | .bool _ => true
  | .int _ => true
  | .str _ => true
  | .tuple ds => hshs ds
  | .list _ => false
  | .dict _ => false
def hshs : List PyData → Bool
  | [] => true
  | d :: ds => hsh d && hshs ds
end

mutual
inductive Rep (T : Kt) (H : Hp) : PyData → V → Prop
  | non : Rep T H .none .non
  | bl (b : Bool) : Rep T H (.bool b) (.bl b)
  | int (i : Int) : Rep T H (.int i) (.int i)
  | str (x : Str) : Rep T H (.str x) (.str x)
  | lst {a : Addr} {xs : List V} {ds : List PyData} : Rd H a (.lst xs) → RepAll T H ds xs → Rep T H (.list ds) (.ref a)
  | tup {a : Addr} {xs : List V} {ds : List PyData} : TupC T.K H a xs → RepAll T H ds xs → Rep T H (.tuple ds) (.ref a)
  | dk {a : Addr} {kvs : List (Key × V)} {ds : List PyData} : H a = some (.dK kvs) → RepAll T H ds (kvs.map (·.2)) → Rep T H (.dict (List.zipWith (fun kv d => (kD kv.1, d)) kvs ds)) (.ref a)
  | dn {a : Addr} {o : Obj} {es : Array DictEntry} {ep : Nat} {ents : List (NestedKey × Addr × Value)} {ks vs : List PyData} {xs : List V} : H a = some (exo a o) → o.ExactDict → o.data = .dict es ep →
      es.toList = ents.map (entryOfKey (nestedKind T.P T.w)) → (ents.map (·.1)).Nodup → (a == sysModules) = false → ents.length ≤ sizeLine → (∀ e ∈ ents, e.1.depth ≤ 8) →
      ks.map nk = ents.map (·.1) → (∀ k ∈ ks, hsh k = true) → RepAll T H ks (ents.map fun e => V.ref e.2.1) → Vals xs (ents.map (·.2.2)) → RepAll T H vs xs → Rep T H (.dict ((.none, .none) :: ks.zip vs)) (.ref a)
inductive RepAll (T : Kt) (H : Hp) : List PyData → List V → Prop
  | nil : RepAll T H [] []
  | cons {v : V} {vs : List V} {d : PyData} {ds : List PyData} : Rep T H d v → RepAll T H ds vs → RepAll T H (d :: ds) (v :: vs)
end
mutual
theorem Rep.mono {T : Kt} {F H : Hp} (e : Sub F H) : ∀ {d : PyData} {v : V}, Rep T F d v → Rep T H d v
  | _, _, .non => .non
  | _, _, .bl b => .bl b
  | _, _, .int i => .int i
  | _, _, .str x => .str x
  | _, _, .lst h a => .lst (sub_r e h) (RepAll.mono e a)
  | _, _, .tup h a => .tup (sub_c e h) (RepAll.mono e a)
  | _, _, .dk h a => .dk (e _ _ h) (RepAll.mono e a)
  | _, _, .dn h1 h2 h3 h4 h5 h6 h7 h8 h9 h10 a h11 b => .dn (e _ _ h1) h2 h3 h4 h5 h6 h7 h8 h9 h10 (RepAll.mono e a) h11 (RepAll.mono e b)
theorem RepAll.mono {T : Kt} {F H : Hp} (e : Sub F H) : ∀ {ds : List PyData} {vs : List V}, RepAll T F ds vs → RepAll T H ds vs
  | _, _, .nil => .nil
  | _, _, .cons h a => .cons (Rep.mono e h) (RepAll.mono e a)
end
theorem RepAll.length {T : Kt} {H : Hp} : ∀ {ds : List PyData} {vs : List V}, RepAll T H ds vs → ds.length = vs.length
  | _, _, .nil => rfl
  | _, _, .cons _ a => by rw [List.length_cons, List.length_cons, RepAll.length a]
theorem RepAll.get {T : Kt} {H : Hp} : ∀ {ds : List PyData} {vs : List V} {i : Nat} {d : PyData}, RepAll T H ds vs → ds[i]? = some d → ∃ v, vs[i]? = some v ∧ Rep T H d v
  | _, _, _, _, .nil, e => by simp at e
  | _, _, 0, _, .cons h a, e => by simp at e; subst e; exact ⟨_, rfl, h⟩
  | _, _, i + 1, _, .cons h a, e => by
    obtain ⟨v, e1, r⟩ := RepAll.get (i := i) a (by simpa using e)
    exact ⟨v, by simpa using e1, r⟩
theorem RepAll.getV {T : Kt} {H : Hp} : ∀ {ds : List PyData} {vs : List V} {i : Nat} {v : V}, RepAll T H ds vs → vs[i]? = some v → ∃ d, ds[i]? = some d ∧ Rep T H d v
  | _, _, _, _, .nil, e => by simp at e
  | _, _, 0, _, .cons h a, e => by simp at e; subst e; exact ⟨_, rfl, h⟩
  | _, _, i + 1, _, .cons h a, e => by
    obtain ⟨v, e1, r⟩ := RepAll.getV (i := i) a (by simpa using e)
    exact ⟨v, by simpa using e1, r⟩
theorem RepAll.append {T : Kt} {H : Hp} : ∀ {ds es : List PyData} {vs us : List V}, RepAll T H ds vs → RepAll T H es us → RepAll T H (ds ++ es) (vs ++ us)
  | _, _, _, _, .nil, b => b
  | _, _, _, _, .cons h a, b => .cons h (RepAll.append a b)
theorem RepAll.take {T : Kt} {H : Hp} : ∀ {ds : List PyData} {vs : List V} (n : Nat), RepAll T H ds vs → RepAll T H (ds.take n) (vs.take n)
  | _, _, 0, _ => .nil
  | _, _, _ + 1, .nil => .nil
  | _, _, n + 1, .cons h a => .cons h (RepAll.take n a)
theorem RepAll.drop {T : Kt} {H : Hp} : ∀ {ds : List PyData} {vs : List V} (n : Nat), RepAll T H ds vs → RepAll T H (ds.drop n) (vs.drop n)
  | _, _, 0, a => a
  | _, _, _ + 1, .nil => .nil
  | _, _, n + 1, .cons _ a => RepAll.drop n a
theorem RepAll.set {T : Kt} {H : Hp} {d : PyData} {v : V} (h : Rep T H d v) : ∀ {ds : List PyData} {vs : List V} (n : Nat), RepAll T H ds vs → RepAll T H (ds.set n d) (vs.set n v)
  | _, _, _, .nil => .nil
  | _, _, 0, .cons _ a => .cons h a
  | _, _, n + 1, .cons q a => .cons q (RepAll.set h n a)

mutual
theorem Rep.dp {T : Kt} {H : Hp} : ∀ {d : PyData} {v : V}, Rep T H d v → PyData.plain d = true → Dp T.K H v d
  | _, _, .non, _ => .non
  | _, _, .bl b, _ => .bl b
  | _, _, .int i, _ => .int i
  | _, _, .str x, _ => .str x
  | _, _, .lst h a, n => .lst (.inl h) (RepAll.dp a (by simpa [PyData.plain] using n))
  | _, _, .tup h a, n => .tup (tupC_sq h) (RepAll.dp a (by simpa [PyData.plain] using n))
  | _, _, .dk h a, n => by simp [PyData.plain] at n
  | _, _, .dn .., n => by simp [PyData.plain] at n
theorem RepAll.dp {T : Kt} {H : Hp} : ∀ {ds : List PyData} {vs : List V}, RepAll T H ds vs → PyData.plainAll ds = true → DpAll T.K H vs ds
  | _, _, .nil, _ => .nil
  | _, _, .cons h a, n => by
    simp only [PyData.plainAll, Bool.and_eq_true] at n
    exact .cons (Rep.dp h n.1) (RepAll.dp a n.2)
end

/-- .. an item of a walk: where b fails a tuple of which less is known -/
def RepB (b : Bool) (T : Kt) (F : Hp) (d : PyData) (v : V) : Prop := Rep T F d v ∨ (b = false ∧ ∃ a ds xs, d = .tuple ds ∧ v = .ref a ∧ SqT T.K F a xs ∧ RepAll T F ds xs)
theorem Rep.b {b : Bool} {T : Kt} {F : Hp} {d : PyData} {v : V} (r : Rep T F d v) : RepB b T F d v := .inl r
theorem RepB.full {T : Kt} {F : Hp} {d : PyData} {v : V} (r : RepB true T F d v) : Rep T F d v := by
  rcases r with r | ⟨e, _⟩
  · exact r
  · cases e
theorem RepB.mono {b : Bool} {T : Kt} {F H : Hp} {d : PyData} {v : V} (s : Sub F H) (r : RepB b T F d v) : RepB b T H d v := by
  rcases r with r | ⟨e, a, ds, xs, e1, e2, h, ra⟩
  · exact .inl (r.mono s)
  · exact .inr ⟨e, a, ds, xs, e1, e2, sub_t s h, ra.mono s⟩
theorem RepB.tup {b : Bool} {T : Kt} {F : Hp} {ds : List PyData} {v : V} (r : RepB b T F (.tuple ds) v) : ∃ a xs, v = .ref a ∧ SqT T.K F a xs ∧ RepAll T F ds xs := by
  rcases r with r | ⟨e, a, es, xs, e1, e2, h, ra⟩
  · cases r with | tup h ra => exact ⟨_, _, rfl, tupC_sq h, ra⟩
  · cases e1; exact ⟨a, xs, e2, h, ra⟩

/-! ### outcomes -/
abbrev Env := List (Option PyData)
inductive Exc where
  | own (c : Str)
inductive Out (α : Type) where
  | ok (a : α) (ρ : Env)
  | exc (e : Exc) (ρ : Env)
  | bad
namespace Out
def bind {α β : Type} (o : Out α) (k : α → Env → Out β) : Out β := match o with
  | .ok a ρ => k a ρ
  | .exc e ρ => .exc e ρ
  | .bad => .bad
@[simp] theorem bind_ok {α β : Type} {a : α} {ρ : Env} {k : α → Env → Out β} : (Out.ok a ρ).bind k = k a ρ := rfl
@[simp] theorem bind_exc {α β : Type} {e : Exc} {ρ : Env} {k : α → Env → Out β} : (Out.exc e ρ : Out α).bind k = .exc e ρ := rfl
@[simp] theorem bind_bad {α β : Type} {k : α → Env → Out β} : (Out.bad : Out α).bind k = .bad := rfl
end Out
abbrev Den := Env → Out PyData
abbrev DenB := Env → Out Bool
abbrev DenL := Env → Out (List PyData)
/-- where a statement leads -/
inductive Fl where
  | nx | rt (d : PyData) | bk | ct
abbrev DenS := Env → Out Fl

/-! ### the slots -/
/-- sh: what stands in the slot is never changed; ow: a list or a dict of this frame's own; pm: one of the caller's own, handed in, the slot never stored anew; fz: the script -/
inductive Md where
  | sh | ow | pm | fz
  deriving DecidableEq
def Md.own : Md → Bool
  | .sh => false
  | .fz => false
  | _ => true
/-- the list or dict at a, its items in F -/
inductive Top (T : Kt) (H F : Hp) (a : Addr) : PyData → Prop
  | lst {xs : List V} {ds : List PyData} : H a = some (.lst xs) → RepAll T F ds xs → Top T H F a (.list ds)
  | dk {kvs : List (Key × V)} {ds : List PyData} : H a = some (.dK kvs) → RepAll T F ds (kvs.map (·.2)) → Top T H F a (.dict (List.zipWith (fun kv d => (kD kv.1, d)) kvs ds))
  | dn {o : Obj} {es : Array DictEntry} {ep : Nat} {ents : List (NestedKey × Addr × Value)} {ks vs : List PyData} {xs : List V} : H a = some (exo a o) → o.ExactDict → o.data = .dict es ep →
      es.toList = ents.map (entryOfKey (nestedKind T.P T.w)) → (ents.map (·.1)).Nodup → (a == sysModules) = false → ents.length ≤ sizeLine → (∀ e ∈ ents, e.1.depth ≤ 8) →
      ks.map nk = ents.map (·.1) → (∀ k ∈ ks, hsh k = true) → RepAll T F ks (ents.map fun e => V.ref e.2.1) → Vals xs (ents.map (·.2.2)) → RepAll T F vs xs → Top T H F a (.dict ((.none, .none) :: ks.zip vs))
theorem Top.mono {T : Kt} {H H' F F' : Hp} {a : Addr} {d : PyData} (t : Top T H F a d) (hH : H' a = H a) (hF : Sub F F') : Top T H' F' a d := by
  cases t with
  | lst h r => exact .lst (hH.trans h) (r.mono hF)
  | dk h r => exact .dk (hH.trans h) (r.mono hF)
  | dn h1 h2 h3 h4 h5 h6 h7 h8 h9 h10 a h11 b => exact .dn (hH.trans h1) h2 h3 h4 h5 h6 h7 h8 h9 h10 (a.mono hF) h11 (b.mono hF)
theorem Top.some {T : Kt} {H F : Hp} {a : Addr} {d : PyData} (t : Top T H F a d) : ∃ o, H a = some o := by
  cases t with
  | lst h r => exact ⟨_, h⟩
  | dk h r => exact ⟨_, h⟩
  | dn h1 => exact ⟨_, h1⟩
/-- it goes into F -/
theorem Top.rep {T : Kt} {H F : Hp} {a : Addr} {d : PyData} {o : HO} (t : Top T H F a d) (ho : H a = Option.some o) (hF : F a = Option.none) : Rep T (upd F a o) d (.ref a) := by
  have s : Sub F (upd F a o) := Sub.mk hF
  cases t with
  | lst h r => rw [h] at ho; cases ho; exact .lst (.inl upd_same) (r.mono s)
  | dk h r => rw [h] at ho; cases ho; exact .dk upd_same (r.mono s)
  | dn h1 h2 h3 h4 h5 h6 h7 h8 h9 h10 a h11 b => rw [h1] at ho; cases ho; exact .dn upd_same h2 h3 h4 h5 h6 h7 h8 h9 h10 (a.mono s) h11 (b.mono s)

def Slot (T : Kt) (G F H : Hp) (m : Md) (d : PyData) (ov : Option (Option V)) : Prop :=
  match m with
  | .sh => ∃ v, ov = some (some v) ∧ Rep T F d v
  | .fz => ∃ a xs ds, ov = some (some (.ref a)) ∧ SqL T.K F a xs ∧ d = .list ds ∧ RepAll T F ds xs
  | _ => ∃ a, ov = some (some (.ref a)) ∧ G a = none ∧ F a = none ∧ Top T H F a d
/-- an own slot's address -/
def OwnAt (M : List Md) (ρ : Env) (σ : St) (i : Nat) (a : Addr) : Prop := ∃ m d, M[i]? = some m ∧ m.own = true ∧ ρ[i]? = some (some d) ∧ σ[i]? = some (some (.ref a))
structure SR (T : Kt) (M : List Md) (G F : Hp) (ρ : Env) (σ : St) (H : Hp) : Prop where
  gh : Sub G H
  fh : Sub F H
  lm : ρ.length ≤ M.length
  ls : ρ.length ≤ σ.length
  sl : ∀ (i : Nat) (d : PyData) (m : Md), ρ[i]? = some (some d) → M[i]? = some m → Slot T G F H m d σ[i]?
  ap : ∀ (i j : Nat) (a : Addr), OwnAt M ρ σ i a → OwnAt M ρ σ j a → i = j
  dj : ∀ (a : Addr) (o : HO), G a = some o → F a = none

section
variable {T : Kt} {M : List Md} {G F F' : Hp} {ρ ρ' : Env} {σ σ' : St} {H H' : Hp}
theorem SR.own (S : SR T M G F ρ σ H) {i : Nat} {a : Addr} (o : OwnAt M ρ σ i a) : G a = none ∧ F a = none ∧ ∃ u, H a = some u := by
  obtain ⟨m, d, hm, ho, hd, hs⟩ := o
  have q := S.sl i d m hd hm
  cases m with
  | sh => cases ho
  | fz => cases ho
  | ow =>
    obtain ⟨b, e, g, f, t⟩ := q
    rw [hs] at e; cases e
    exact ⟨g, f, t.some⟩
  | pm =>
    obtain ⟨b, e, g, f, t⟩ := q
    rw [hs] at e; cases e
    exact ⟨g, f, t.some⟩
/-- the heap grows or changes away from what is told of -/
theorem SR.step (S : SR T M G F ρ σ H) (hF : Sub F F') (hG : Sub G H') (hF' : Sub F' H') (ho : ∀ i a, OwnAt M ρ σ i a → H' a = H a ∧ F' a = none) (hdj : ∀ (a : Addr) (o : HO), G a = some o → F' a = none) : SR T M G F' ρ σ H' := by
  refine ⟨hG, hF', S.lm, S.ls, fun i d m hd hm => ?_, S.ap, hdj⟩
  have q := S.sl i d m hd hm
  cases m with
  | sh =>
    obtain ⟨v, e, r⟩ := q
    exact ⟨v, e, r.mono hF⟩
  | fz =>
    obtain ⟨a, xs, ds, e, h, e2, r⟩ := q
    exact ⟨a, xs, ds, e, sub_l hF h, e2, r.mono hF⟩
  | ow =>
    obtain ⟨a, e, g, f, t⟩ := q
    obtain ⟨h1, h2⟩ := ho i a ⟨.ow, d, hm, rfl, hd, e⟩
    exact ⟨a, e, g, h2, t.mono h1 hF⟩
  | pm =>
    obtain ⟨a, e, g, f, t⟩ := q
    obtain ⟨h1, h2⟩ := ho i a ⟨.pm, d, hm, rfl, hd, e⟩
    exact ⟨a, e, g, h2, t.mono h1 hF⟩
/-- a new object, laid into F -/
theorem SR.laid {p : Addr} {o : HO} (S : SR T M G F ρ σ H) (hp : H p = none) : SR T M G (upd F p o) ρ σ (upd H p o) := by
  refine S.step (Sub.mk (S.fh.none hp)) (S.gh.tr (Sub.new hp)) (fun a u e => ?_) (fun i a oa => ?_) fun a u e => ?_
  · by_cases q : a = p
    · subst q; rw [upd_same] at e ⊢; exact e
    · rw [upd_ne q] at e ⊢; exact S.fh a u e
  · obtain ⟨_, f, u, hu⟩ := S.own oa
    have q : a ≠ p := fun e => by subst e; rw [hp] at hu; cases hu
    exact ⟨upd_ne q, by rw [upd_ne q]; exact f⟩
  · have q : a ≠ p := fun z => by subst z; rw [S.gh.none hp] at e; cases e
    rw [upd_ne q]; exact S.dj a u e
/-- a new object, kept apart -/
theorem SR.fresh {p : Addr} {o : HO} (S : SR T M G F ρ σ H) (hp : H p = none) : SR T M G F ρ σ (upd H p o) := by
  refine S.step Sub.rfl' (S.gh.tr (Sub.new hp)) (S.fh.tr (Sub.new hp)) (fun i a oa => ?_) S.dj
  obtain ⟨_, f, u, hu⟩ := S.own oa
  have q : a ≠ p := fun e => by subst e; rw [hp] at hu; cases hu
  exact ⟨upd_ne q, f⟩
end

/-! ### kinds of results -/
/-- fr: the asker's own; sh: lies in F; ow: its top may be an own slot's -/
inductive Kd where
  | fr | sh | ow
def isMut : PyData → Bool
  | .list _ => true
  | .dict _ => true
  | _ => false
inductive Brw (T : Kt) (H F : Hp) : PyData → V → Prop
  | rep {d : PyData} {v : V} : Rep T F d v → Brw T H F d v
  | top {d : PyData} {a : Addr} : Top T H F a d → Brw T H F d (.ref a)
def ResK (k : Kd) (T : Kt) (M : List Md) (G F H : Hp) (ρ : Env) (σ : St) (v : V) (d : PyData) : Prop := match k with
  | .fr => (isMut d = false → Rep T F d v) ∧ (isMut d = true → ∃ a, v = .ref a ∧ G a = none ∧ F a = none ∧ Top T H F a d ∧ ∀ i, ¬ OwnAt M ρ σ i a)
  | .sh => Rep T F d v
  | .ow => Brw T H F d v

/-- what a class of exceptions is -/
def ClsOf (X : Cx) : Exc → Value → Prop
  | .own c, v => X.mg c = some v

/-- the outcome's wish -/
def Post {α : Type} (X : Cx) (W : WX) (M : List Md) (G F : Hp) (σ : St) (o : Out α) (R : α → Env → Hp → Hp → Prop) : Prop := match o with
  | .ok a ρ' => ∀ F' H', Sub F F' → SR (kt X) M G F' ρ' σ H' → R a ρ' F' H'
  | .exc e ρ' => ∀ F' H' c, Sub F F' → SR (kt X) M G F' ρ' σ H' → ClsOf X e c → W c none σ H'
  | .bad => False
section
variable {α β : Type} {X : Cx} {W : WX} {M : List Md} {G F : Hp} {σ : St}
theorem Post.imp {o : Out α} {R R' : α → Env → Hp → Hp → Prop} (h : Post X W M G F σ o R) (k : ∀ a ρ' F' H', Sub F F' → SR (kt X) M G F' ρ' σ H' → R a ρ' F' H' → R' a ρ' F' H') : Post X W M G F σ o R' := by
  cases o with
  | ok a ρ' => exact fun F' H' s r => k a ρ' F' H' s r (h F' H' s r)
  | exc e ρ' => exact h
  | bad => exact h
theorem Post.bind {o : Out α} {k : α → Env → Out β} {R : β → Env → Hp → Hp → Prop} (h : Post X W M G F σ (o.bind k) R) : Post X W M G F σ o fun a ρ1 F1 _ => Post X W M G F1 σ (k a ρ1) R := by
  cases o with
  | bad => exact h
  | exc e ρ' => exact h
  | ok a ρ1 =>
    intro F1 H1 s1 r1
    have h : Post X W M G F σ (k a ρ1) R := h
    show Post X W M G F1 σ (k a ρ1) R
    cases q : k a ρ1 with
    | ok b ρ2 => rw [q] at h; exact fun F2 H2 s2 r2 => h F2 H2 (s1.tr s2) r2
    | exc e ρ2 => rw [q] at h; exact fun F2 H2 c s2 r2 => h F2 H2 c (s1.tr s2) r2
    | bad => rw [q] at h; exact h
/-- at once -/
theorem Post.now {a : α} {ρ : Env} {H : Hp} {R : α → Env → Hp → Hp → Prop} (h : Post X W M G F σ (.ok a ρ) R) (S : SR (kt X) M G F ρ σ H) : R a ρ F H := h F H Sub.rfl' S
end
/-- an expression's worth -/
def PX (X : Cx) (W : WX) (M : List Md) (k : Kd) (e : Expr) (f : Den) : Prop :=
  ∃ t : TE, PE X e t ∧ ∀ G F ρ σ H Q, SR (kt X) M G F ρ σ H → Post X W M G F σ (f ρ) (fun d ρ' F' H' => ∀ v, ResK k (kt X) M G F' H' ρ' σ v d → Q v H') → t σ H Q
/-- a test's -/
def PXT (X : Cx) (W : WX) (M : List Md) (e : Expr) (f : DenB) : Prop :=
  ∃ t : TT, PT X e t ∧ ∀ G F ρ σ H Q, SR (kt X) M G F ρ σ H → Post X W M G F σ (f ρ) (fun b _ _ H' => Q b H') → t σ H Q
/-- a row of arguments -/
def PXA (X : Cx) (W : WX) (M : List Md) (es : List Expr) (f : DenL) : Prop :=
  ∃ t : TA, PA X es t ∧ ∀ G F ρ σ H Q, SR (kt X) M G F ρ σ H → Post X W M G F σ (f ρ) (fun ds _ F' H' => ∀ vs, RepAll (kt X) F' ds vs → Q vs H') → t σ H Q
section
variable {X : Cx} {W : WX} {M : List Md} {e : Expr} {f : Den}
theorem ResK.sc {T : Kt} {k : Kd} {G F H : Hp} {ρ : Env} {σ : St} {v : V} {d : PyData} (r : Rep T F d v) (h : isMut d = false) : ResK k T M G F H ρ σ v d := by
  cases k with
  | fr => exact ⟨fun _ => r, fun q => by rw [h] at q; cases q⟩
  | sh => exact r
  | ow => exact .rep r
theorem PX.ow (h : PX X W M .sh e f) : PX X W M .ow e f := by
  obtain ⟨t, p, q⟩ := h
  exact ⟨t, p, fun G F ρ σ H Q S h => q G F ρ σ H Q S (h.imp fun d ρ' F' H' _ _ k v r => k v (.rep r))⟩
theorem PX.sh (h : PX X W M .fr e f) : PX X W M .sh e f := by
  obtain ⟨t, p, q⟩ := h
  refine ⟨t, p, fun G F ρ σ H Q S h => q G F ρ σ H Q S ?_⟩
  cases o : f ρ with
  | bad => rw [o] at h; exact h
  | exc e ρ' => rw [o] at h; exact h
  | ok d ρ' =>
    rw [o] at h
    intro F' H' s r v rk
    cases hm : isMut d with
    | false => exact h F' H' s r v (rk.1 hm)
    | true =>
      obtain ⟨a, rfl, g, fn, tp, ap⟩ := rk.2 hm
      obtain ⟨u, hu⟩ := tp.some
      refine h (upd F' a u) H' (s.tr (Sub.mk fn)) (r.step (Sub.mk fn) r.gh (r.fh.add hu) (fun i b ob => ⟨rfl, ?_⟩) fun b o hb => ?_) _ (tp.rep hu fn)
      · rw [upd_ne (show b ≠ a from fun e => ap i (e ▸ ob))]
        exact (r.own ob).2.1
      · rw [upd_ne (show b ≠ a from fun e => by subst e; rw [g] at hb; cases hb)]
        exact r.dj b o hb
theorem PX.frow (h : PX X W M .fr e f) : PX X W M .ow e f := h.sh.ow
end
end PD

set_option Elab.async false
set_option linter.all false
set_option maxRecDepth 100000
set_option maxHeartbeats 1000000
set_option autoImplicit false
namespace PD
open PySem L2
section
variable {X : Cx} {W : WX} {M : List Md} {k : Kd} {pos : Pos}

theorem Rep.rd {pins : List (Addr × Obj)} {σ : St} {H : Hp} {s : Shared} (I : Inv X pins σ H s) {d : PyData} {v : V} {u : Value} (r : Rep (kt X) H d v) (p : d.plain = true) (ru : RelV v u) : ∃ as, Reads s.heap u d as :=
  Dp.reads I d v u (Rep.dp (T := kt X) r p) ru
theorem Brw.rep' {T : Kt} {H F : Hp} {d : PyData} {v : V} (b : Brw T H F d v) (s : Sub F H) : Rep T H d v := by
  cases b with
  | rep r => exact r.mono s
  | top t =>
    cases t with
    | lst h r => exact .lst (.inl h) (r.mono s)
    | dk h r => exact .dk h (r.mono s)
    | dn h1 h2 h3 h4 h5 h6 h7 h8 h9 h10 a h11 b => exact .dn h1 h2 h3 h4 h5 h6 h7 h8 h9 h10 (a.mono s) h11 (b.mono s)
theorem Brw.scal {T : Kt} {H F : Hp} {d : PyData} {v : V} (b : Brw T H F d v) (h : isMut d = false) : Rep T F d v := by
  cases b with
  | rep r => exact r
  | top t => cases t <;> cases h

theorem Post.up {α : Type} {G F F' : Hp} {σ : St} {o : Out α} {R : α → Env → Hp → Hp → Prop} (s : Sub F F') (h : Post X W M G F σ o R) : Post X W M G F' σ o R := by
  cases o with
  | ok a ρ' => exact fun F2 H2 s2 S2 => h F2 H2 (s.tr s2) S2
  | exc e ρ' => exact fun F2 H2 c s2 S2 => h F2 H2 c (s.tr s2) S2
  | bad => exact h

/-! ### names, constants -/
def dVar (i : Nat) : Den := fun ρ => match ρ[i]? with
  | some (some d) => .ok d ρ
  | _ => .bad
def dC (d : PyData) : Den := fun ρ => .ok d ρ
theorem px_c {e : Expr} {v : V} {d : PyData} (h : PE X e (tC v)) (r : ∀ T H, Rep T H d v) (hm : isMut d = false := by rfl) : PX X W M k e (dC d) :=
  ⟨_, h, fun G F ρ σ H Q S p => p.now S v (ResK.sc (r _ _) hm)⟩
theorem px_int {i : Int} {j : Nat} : PX X W M k (.Constant (.int i) j pos) (dC (.int i)) := px_c pe_int fun _ _ => .int i
theorem px_bl {b : Bool} {j : Nat} : PX X W M k (.Constant (.bool b) j pos) (dC (.bool b)) := px_c pe_bl fun _ _ => .bl b
theorem px_non {j : Nat} : PX X W M k (.Constant .none j pos) (dC .none) := px_c pe_non fun _ _ => .non
theorem px_str {x : Str} {j : Nat} : PX X W M k (.Constant (.str x) j pos) (dC (.str x)) := px_c pe_str fun _ _ => .str x
/-- a slot -/
theorem px_var {i : Nat} {x : Str} (hi : X.N[i]? = some x) (hv : Vis X.env.scope x) (hm : M[i]? = some .sh) (hd : (x == ("__debug__" : Str)) = false := by decide) (hcd : (x == ("__classdict__" : Str)) = false := by decide) : PX X W M .sh (.Name x pos) (dVar i) := by
  refine ⟨_, pe_var hi hv hd hcd, fun G F ρ σ H Q S p => ?_⟩
  unfold dVar at p
  split at p
  · rename_i d h
    obtain ⟨v, e, r⟩ := S.sl i d _ h hm
    exact ⟨v, e, p.now S v r⟩
  · exact p.elim
theorem SR.top {T : Kt} {G F H : Hp} {ρ : Env} {σ : St} (S : SR T M G F ρ σ H) {i : Nat} {m : Md} {d : PyData} (hm : M[i]? = some m) (ho : m.own = true) (hd : ρ[i]? = some (some d)) : ∃ a, σ[i]? = some (some (.ref a)) ∧ G a = none ∧ F a = none ∧ Top T H F a d := by
  have q := S.sl i d m hd hm
  cases m with
  | sh => cases ho
  | fz => cases ho
  | ow => exact q
  | pm => exact q
theorem px_own {i : Nat} {x : Str} {m : Md} (hi : X.N[i]? = some x) (hv : Vis X.env.scope x) (hm : M[i]? = some m) (ho : m.own = true := by rfl) (hd : (x == ("__debug__" : Str)) = false := by decide) (hcd : (x == ("__classdict__" : Str)) = false := by decide) : PX X W M .ow (.Name x pos) (dVar i) := by
  refine ⟨_, pe_var hi hv hd hcd, fun G F ρ σ H Q S p => ?_⟩
  unfold dVar at p
  split at p
  · rename_i d h
    obtain ⟨a, e, _, _, t⟩ := S.top hm ho h
    exact ⟨.ref a, e, p.now S _ (.top t)⟩
  · exact p.elim

/-! ### rows of arguments, displays -/
def dNil : DenL := fun ρ => .ok [] ρ
def dCons (f : Den) (g : DenL) : DenL := fun ρ => (f ρ).bind fun d ρ => (g ρ).bind fun ds ρ => .ok (d :: ds) ρ
theorem pxa_nil : PXA X W M [] dNil := ⟨_, pa_nil, fun G F ρ σ H Q S p => p.now S [] .nil⟩
theorem pxa_cons {e : Expr} {es : List Expr} {f : Den} {g : DenL} (h : PX X W M .sh e f) (hs : PXA X W M es g) (st : starEach (e :: es) X.env = (false, eval e X.env) :: starEach es X.env := by rfl) : PXA X W M (e :: es) (dCons f g) := by
  obtain ⟨t, p, q⟩ := h
  obtain ⟨u, p', q'⟩ := hs
  refine ⟨_, pa_cons p p' st, fun G F ρ σ H Q S w => ?_⟩
  refine q _ _ _ _ _ _ S ((Post.bind w).imp fun d ρ1 F1 H1 _ S1 w1 v r => ?_)
  refine q' _ _ _ _ _ _ S1 ((Post.bind w1).imp fun ds ρ2 F2 H2 s2 S2 w2 vs rs => ?_)
  exact w2.now S2 (v :: vs) (.cons (Rep.mono s2 r) rs)
def dTup (g : DenL) : Den := fun ρ => (g ρ).bind fun ds ρ => if ds.length ≤ sizeLine then .ok (.tuple ds) ρ else .bad
def dLst (g : DenL) : Den := fun ρ => (g ρ).bind fun ds ρ => if ds.length ≤ sizeLine then .ok (.list ds) ρ else .bad
/-- a new tuple is told -/
theorem new_tup {G F H : Hp} {ρ : Env} {σ : St} {Q : VK} {ds : List PyData} {vs : List V} (S : SR (kt X) M G F ρ σ H) (r : RepAll (kt X) F ds vs)
    (h : Post X W M G F σ (.ok (PyData.tuple ds) ρ) fun d ρ' F' H' => ∀ v, ResK k (kt X) M G F' H' ρ' σ v d → Q v H') {p : Addr} {ob : Obj} (hp : H p = none) (hob : ob.dict = none) : Q (.ref p) (upd H p (.frz ob (.tup vs))) := by
  have fn : F p = none := S.fh.none hp
  refine h (upd F p (.frz ob (.tup vs))) _ (Sub.mk fn) (S.laid hp) _ (ResK.sc (.tup (tupC_new hob) (r.mono (Sub.mk fn))) rfl)
theorem new_lst {G F H : Hp} {ρ : Env} {σ : St} {Q : VK} {ds : List PyData} {vs : List V} (S : SR (kt X) M G F ρ σ H) (r : RepAll (kt X) F ds vs)
    (h : Post X W M G F σ (.ok (PyData.list ds) ρ) fun d ρ' F' H' => ∀ v, ResK .fr (kt X) M G F' H' ρ' σ v d → Q v H') {p : Addr} (hp : H p = none) : Q (.ref p) (upd H p (.lst vs)) := by
  refine h F _ Sub.rfl' (S.fresh hp) _ ⟨fun q => (by cases q), fun _ => ⟨p, rfl, S.gh.none hp, S.fh.none hp, .lst upd_same r, fun i o => ?_⟩⟩
  obtain ⟨_, _, u, hu⟩ := S.own o
  rw [hp] at hu; cases hu
theorem px_tup {es : List Expr} {g : DenL} {x1 : Nat} (h : PXA X W M es g) : PX X W M k (.Tuple es x1 pos) (dTup g) := by
  obtain ⟨t, p, q⟩ := h
  refine ⟨_, pe_tupC p, fun G F ρ σ H Q S w => q _ _ _ _ _ _ S ((Post.bind w).imp fun ds ρ1 F1 H1 _ S1 w1 vs r => ?_)⟩
  split at w1
  · rename_i hl
    exact ⟨by rw [← r.length]; exact hl, fun a ob ha hb => new_tup S1 r w1 ha hb⟩
  · exact w1.elim
theorem px_lst {es : List Expr} {g : DenL} (h : PXA X W M es g) : PX X W M .fr (.List es pos) (dLst g) := by
  obtain ⟨t, p, q⟩ := h
  refine ⟨_, pe_lst p, fun G F ρ σ H Q S w => q _ _ _ _ _ _ S ((Post.bind w).imp fun ds ρ1 F1 H1 _ S1 w1 vs r => ?_)⟩
  split at w1
  · rename_i hl
    exact ⟨by rw [← r.length]; exact hl, fun a ha => new_lst S1 r w1 ha⟩
  · exact w1.elim

/-! ### operators on two values -/
def dOp (g : PyData → PyData → Option PyData) (fa fb : Den) : Den := fun ρ => (fa ρ).bind fun a ρ => (fb ρ).bind fun b ρ => match g a b with
  | some d => .ok d ρ
  | none => .bad
/-- the first operand an own slot: it is read behind the second -/
def dOpO (g : PyData → PyData → Option PyData) (i : Nat) (fb : Den) : Den := fun ρ => (dVar i ρ).bind fun _ ρ => (fb ρ).bind fun b ρ => (dVar i ρ).bind fun a ρ => match g a b with
  | some d => .ok d ρ
  | none => .bad
/-- an operation on values, by data -/
def OpD (X : Cx) (M : List Md) (k : Kd) (f : Value → Value → Sem Value) (g : PyData → PyData → Option PyData) : Prop :=
  ∃ r : R2, OpR X f r ∧ ∀ (W : WX) G F ρ σ H x y dx dy d Q, SR (kt X) M G F ρ σ H → Brw (kt X) H F dx x → Brw (kt X) H F dy y → g dx dy = some d →
    Post X W M G F σ (.ok d ρ) (fun d ρ' F' H' => ∀ v, ResK k (kt X) M G F' H' ρ' σ v d → Q v H') → r x y H Q
theorem OpD.or {f : Value → Value → Sem Value} {g g' : PyData → PyData → Option PyData} (h : OpD X M k f g) (h' : OpD X M k f g') : OpD X M k f fun a b => match g a b with | some d => some d | none => g' a b := by
  obtain ⟨r, o, q⟩ := h
  obtain ⟨r', o', q'⟩ := h'
  refine ⟨_, OpR.or o o', fun W G F ρ σ H x y dx dy d Q S bx b_y e p => ?_⟩
  dsimp only at e
  split at e
  · rename_i d' e'
    exact .inl (q W G F ρ σ H x y dx dy d Q S bx b_y (e'.trans e) p)
  · exact .inr (q' W G F ρ σ H x y dx dy d Q S bx b_y e p)
theorem OpD.imp {f : Value → Value → Sem Value} {g g' : PyData → PyData → Option PyData} (h : OpD X M k f g) (hg : ∀ a b d, g' a b = some d → g a b = some d) : OpD X M k f g' := by
  obtain ⟨r, o, q⟩ := h
  exact ⟨r, o, fun W G F ρ σ H x y dx dy d Q S bx b_y e p => q W G F ρ σ H x y dx dy d Q S bx b_y (hg _ _ _ e) p⟩
theorem op_run {f : Value → Value → Sem Value} {g : PyData → PyData → Option PyData} {r : R2} (q : ∀ (W : WX) G F ρ σ H x y dx dy d Q, SR (kt X) M G F ρ σ H → Brw (kt X) H F dx x → Brw (kt X) H F dy y → g dx dy = some d →
    Post X W M G F σ (.ok d ρ) (fun d ρ' F' H' => ∀ v, ResK k (kt X) M G F' H' ρ' σ v d → Q v H') → r x y H Q) {a b : Expr} {ta tb : TE} {fa fb : Den}
    (qa : ∀ G F ρ σ H Q, SR (kt X) M G F ρ σ H → Post X W M G F σ (fa ρ) (fun d ρ' F' H' => ∀ v, ResK .sh (kt X) M G F' H' ρ' σ v d → Q v H') → ta σ H Q)
    (qb : ∀ G F ρ σ H Q, SR (kt X) M G F ρ σ H → Post X W M G F σ (fb ρ) (fun d ρ' F' H' => ∀ v, ResK .ow (kt X) M G F' H' ρ' σ v d → Q v H') → tb σ H Q)
    {G F H : Hp} {ρ : Env} {σ : St} {Q : VK} (S : SR (kt X) M G F ρ σ H) (w : Post X W M G F σ (dOp g fa fb ρ) fun d ρ' F' H' => ∀ v, ResK k (kt X) M G F' H' ρ' σ v d → Q v H') : tOp r ta tb σ H Q := by
  refine qa _ _ _ _ _ _ S ((Post.bind w).imp fun da ρ1 F1 H1 _ S1 w1 x rx => ?_)
  refine qb _ _ _ _ _ _ S1 ((Post.bind w1).imp fun db ρ2 F2 H2 s2 S2 w2 y ry => ?_)
  split at w2
  · rename_i d e
    exact q W _ _ _ _ _ _ _ _ _ _ _ S2 (.rep (Rep.mono s2 rx)) ry e w2
  · exact w2.elim
theorem px_op {op : Operator} {g : PyData → PyData → Option PyData} {a b : Expr} {fa fb : Den} (h : OpD X M k (binaryOp op) g) (ha : PX X W M .sh a fa) (hb : PX X W M .ow b fb) : PX X W M k (.BinOp a op b pos) (dOp g fa fb) := by
  obtain ⟨r, o, q⟩ := h
  obtain ⟨ta, pa, qa⟩ := ha
  obtain ⟨tb, pb, qb⟩ := hb
  exact ⟨_, pe_op o pa pb, fun G F ρ σ H Q S w => op_run (f := binaryOp op) (a := a) (b := b) q qa qb S w⟩
theorem own_run {f : Value → Value → Sem Value} {g : PyData → PyData → Option PyData} {r : R2} (q : ∀ (W : WX) G F ρ σ H x y dx dy d Q, SR (kt X) M G F ρ σ H → Brw (kt X) H F dx x → Brw (kt X) H F dy y → g dx dy = some d →
    Post X W M G F σ (.ok d ρ) (fun d ρ' F' H' => ∀ v, ResK k (kt X) M G F' H' ρ' σ v d → Q v H') → r x y H Q) {b : Expr} {tb : TE} {fb : Den} {i : Nat} {m : Md} (hm : M[i]? = some m) (ho : m.own = true)
    (qb : ∀ G F ρ σ H Q, SR (kt X) M G F ρ σ H → Post X W M G F σ (fb ρ) (fun d ρ' F' H' => ∀ v, ResK .ow (kt X) M G F' H' ρ' σ v d → Q v H') → tb σ H Q)
    {G F H : Hp} {ρ : Env} {σ : St} {Q : VK} (S : SR (kt X) M G F ρ σ H) (w : Post X W M G F σ (dOpO g i fb ρ) fun d ρ' F' H' => ∀ v, ResK k (kt X) M G F' H' ρ' σ v d → Q v H') : tOp r (tVar i) tb σ H Q := by
  unfold dOpO dVar at w
  split at w
  · rename_i d0 h0
    obtain ⟨a, e, _, _, _⟩ := S.top hm ho h0
    refine ⟨_, e, ?_⟩
    have w : Post X W M G F σ ((fb ρ).bind _) _ := w
    refine qb _ _ _ _ _ _ S ((Post.bind w).imp fun db ρ2 F2 H2 s2 S2 w2 y ry => ?_)
    split at w2
    · rename_i d2 h2
      obtain ⟨a', e', _, _, t'⟩ := S2.top hm ho h2
      rw [e] at e'; cases e'
      simp only [Out.bind_ok] at w2
      split at w2
      · rename_i d' e'
        exact q W _ _ _ _ _ _ _ _ _ _ _ S2 (.top t') ry e' w2
      · exact w2.elim
    · exact w2.elim
  · exact w.elim
theorem px_opO {op : Operator} {g : PyData → PyData → Option PyData} {i : Nat} {x : Str} {m : Md} {p : Pos} {b : Expr} {fb : Den} (h : OpD X M k (binaryOp op) g) (hi : X.N[i]? = some x) (hv : Vis X.env.scope x) (hm : M[i]? = some m) (hb : PX X W M .ow b fb) (ho : m.own = true := by rfl)
    (hd : (x == ("__debug__" : Str)) = false := by decide) (hcd : (x == ("__classdict__" : Str)) = false := by decide) : PX X W M k (.BinOp (.Name x p) op b pos) (dOpO g i fb) := by
  obtain ⟨r, o, q⟩ := h
  obtain ⟨tb, pb, qb⟩ := hb
  exact ⟨_, pe_op o (pe_var hi hv hd hcd) pb, fun G F ρ σ H Q S w => own_run (f := binaryOp op) (b := b) q hm ho qb S w⟩

/-! ### tests -/
theorem px_cmp {op : CmpOp} {g : PyData → PyData → Option PyData} {a b : Expr} {fa fb : Den} (h : OpD X M k (compareOp op) g) (ha : PX X W M .sh a fa) (hb : PX X W M .ow b fb) (hm : behindInMarks op b = false) : PX X W M k (.Compare a [op] [b] pos) (dOp g fa fb) := by
  obtain ⟨r, o, q⟩ := h
  obtain ⟨ta, pa, qa⟩ := ha
  obtain ⟨tb, pb, qb⟩ := hb
  exact ⟨_, pe_cmpR o pa pb hm, fun G F ρ σ H Q S w => op_run (f := compareOp op) (a := a) (b := b) q qa qb S w⟩
theorem px_cmpO {op : CmpOp} {g : PyData → PyData → Option PyData} {i : Nat} {x : Str} {m : Md} {p : Pos} {b : Expr} {fb : Den} (h : OpD X M k (compareOp op) g) (hi : X.N[i]? = some x) (hv : Vis X.env.scope x) (hm : M[i]? = some m) (hb : PX X W M .ow b fb) (hm2 : behindInMarks op b = false) (ho : m.own = true := by rfl)
    (hd : (x == ("__debug__" : Str)) = false := by decide) (hcd : (x == ("__classdict__" : Str)) = false := by decide) : PX X W M k (.Compare (.Name x p) [op] [b] pos) (dOpO g i fb) := by
  obtain ⟨r, o, q⟩ := h
  obtain ⟨tb, pb, qb⟩ := hb
  exact ⟨_, pe_cmpR o (pe_var hi hv hd hcd) pb hm2, fun G F ρ σ H Q S w => own_run (f := compareOp op) (b := b) q hm ho qb S w⟩
/-- a value as a test: a bool -/
def dB (f : Den) : DenB := fun ρ => (f ρ).bind fun d ρ => match d with
  | .bool b => .ok b ρ
  | _ => .bad
theorem rep_bl {T : Kt} {H F : Hp} {b : Bool} {v : V} (r : Brw T H F (.bool b) v) : v = .bl b := by
  cases r with
  | rep r => cases r; rfl
  | top t => cases t
theorem pxt_b {e : Expr} {f : Den} (h : PX X W M .ow e f) (he : ∀ whole, isTrue e X.env whole = (do let v ← whole; standAt e.pos; holding [v] (truthy v)) := by intro _; rfl) : PXT X W M e (dB f) := by
  obtain ⟨t, p, q⟩ := h
  refine ⟨_, pt_val p he, fun G F ρ σ H Q S w => q _ _ _ _ _ _ S ((Post.bind w).imp fun d ρ1 F1 H1 _ S1 w1 v r => ?_)⟩
  split at w1
  · exact ⟨_, rep_bl r, w1.now S1⟩
  · exact w1.elim
theorem pxt_cmp {op : CmpOp} {g : PyData → PyData → Option PyData} {a b : Expr} {fa fb : Den} (h : OpD X M .ow (compareOp op) g) (ha : PX X W M .sh a fa) (hb : PX X W M .ow b fb) (hm : behindInMarks op b = false) : PXT X W M (.Compare a [op] [b] pos) (dB (dOp g fa fb)) := by
  obtain ⟨r, o, q⟩ := h
  obtain ⟨ta, pa, qa⟩ := ha
  obtain ⟨tb, pb, qb⟩ := hb
  refine ⟨_, pt_cmpR o pa pb hm, fun G F ρ σ H Q S w => op_run (f := compareOp op) (a := a) (b := b) q qa qb S ((Post.bind w).imp fun d ρ1 F1 H1 _ S1 w1 v r => ?_)⟩
  split at w1
  · exact ⟨_, rep_bl r, w1.now S1⟩
  · exact w1.elim
theorem pxt_cmpO {op : CmpOp} {g : PyData → PyData → Option PyData} {i : Nat} {x : Str} {m : Md} {p : Pos} {b : Expr} {fb : Den} (h : OpD X M .ow (compareOp op) g) (hi : X.N[i]? = some x) (hv : Vis X.env.scope x) (hm : M[i]? = some m) (hb : PX X W M .ow b fb) (hm2 : behindInMarks op b = false) (ho : m.own = true := by rfl)
    (hd : (x == ("__debug__" : Str)) = false := by decide) (hcd : (x == ("__classdict__" : Str)) = false := by decide) : PXT X W M (.Compare (.Name x p) [op] [b] pos) (dB (dOpO g i fb)) := by
  obtain ⟨r, o, q⟩ := h
  obtain ⟨tb, pb, qb⟩ := hb
  refine ⟨_, pt_cmpR o (pe_var hi hv hd hcd) pb hm2, fun G F ρ σ H Q S w => own_run (f := compareOp op) (b := b) q hm ho qb S ((Post.bind w).imp fun d ρ1 F1 H1 _ S1 w1 v r => ?_)⟩
  split at w1
  · exact ⟨_, rep_bl r, w1.now S1⟩
  · exact w1.elim
def dAnd (f g : DenB) : DenB := fun ρ => (f ρ).bind fun b ρ => if b = true then g ρ else .ok false ρ
def dOr (f g : DenB) : DenB := fun ρ => (f ρ).bind fun b ρ => if b = true then .ok true ρ else g ρ
def dNot (f : DenB) : DenB := fun ρ => (f ρ).bind fun b ρ => .ok (!b) ρ
/-- a test without its whole -/
def PXW (X : Cx) (W : WX) (M : List Md) (e : Expr) (f : DenB) : Prop :=
  ∃ t : TT, PW X e t ∧ ∀ G F ρ σ H Q, SR (kt X) M G F ρ σ H → Post X W M G F σ (f ρ) (fun b _ _ H' => Q b H') → t σ H Q
theorem PXW.t {e : Expr} {f : DenB} (h : PXW X W M e f) : PXT X W M e f := let ⟨t, p, q⟩ := h; ⟨t, p.pt, q⟩
theorem pxw_and1 {a : Expr} {f : DenB} (h : PXT X W M a f) : PXW X W M (.BoolOp .And [a] pos) f := let ⟨t, p, q⟩ := h; ⟨t, pw_and1 p, q⟩
theorem pxw_or1 {a : Expr} {f : DenB} (h : PXT X W M a f) : PXW X W M (.BoolOp .Or [a] pos) f := let ⟨t, p, q⟩ := h; ⟨t, pw_or1 p, q⟩
theorem pxw_and {a b : Expr} {rest : List Expr} {f g : DenB} (ha : PXT X W M a f) (hb : PXW X W M (.BoolOp .And (b :: rest) pos) g) : PXW X W M (.BoolOp .And (a :: b :: rest) pos) (dAnd f g) := by
  obtain ⟨t, p, q⟩ := ha
  obtain ⟨u, p', q'⟩ := hb
  refine ⟨_, pw_and p p', fun G F ρ σ H Q S w => q _ _ _ _ _ _ S ((Post.bind w).imp fun c ρ1 F1 H1 _ S1 w1 => ?_)⟩
  cases c with
  | true => exact q' _ _ _ _ _ _ S1 w1
  | false => exact w1.now S1
theorem pxw_or {a b : Expr} {rest : List Expr} {f g : DenB} (ha : PXT X W M a f) (hb : PXW X W M (.BoolOp .Or (b :: rest) pos) g) : PXW X W M (.BoolOp .Or (a :: b :: rest) pos) (dOr f g) := by
  obtain ⟨t, p, q⟩ := ha
  obtain ⟨u, p', q'⟩ := hb
  refine ⟨_, pw_or p p', fun G F ρ σ H Q S w => q _ _ _ _ _ _ S ((Post.bind w).imp fun c ρ1 F1 H1 _ S1 w1 => ?_)⟩
  cases c with
  | false => exact q' _ _ _ _ _ _ S1 w1
  | true => exact w1.now S1
theorem pxt_not {a : Expr} {f : DenB} (h : PXT X W M a f) : PXT X W M (.UnaryOp .Not a pos) (dNot f) := by
  obtain ⟨t, p, q⟩ := h
  exact ⟨_, pt_not p, fun G F ρ σ H Q S w => q _ _ _ _ _ _ S ((Post.bind w).imp fun c ρ1 F1 H1 _ S1 w1 => w1.now S1)⟩
/-- .. as values -/
def dAndV (f g : Den) : Den := fun ρ => (f ρ).bind fun d ρ => match d with
  | .bool true => g ρ
  | .bool false => .ok (.bool false) ρ
  | _ => .bad
def dOrV (f g : Den) : Den := fun ρ => (f ρ).bind fun d ρ => match d with
  | .bool true => .ok (.bool true) ρ
  | .bool false => g ρ
  | _ => .bad
def dNotV (f : Den) : Den := fun ρ => (f ρ).bind fun d ρ => match d with
  | .bool b => .ok (.bool (!b)) ρ
  | _ => .bad
theorem px_one {op : BoolOp} {a : Expr} {f : Den} (h : PX X W M k a f) : PX X W M k (.BoolOp op [a] pos) f := let ⟨t, p, q⟩ := h; ⟨t, pe_one p, q⟩
theorem px_and {a b : Expr} {rest : List Expr} {f g : Den} (ha : PX X W M .ow a f) (hb : PX X W M k (.BoolOp .And (b :: rest) pos) g) : PX X W M k (.BoolOp .And (a :: b :: rest) pos) (dAndV f g) := by
  obtain ⟨t, p, q⟩ := ha
  obtain ⟨u, p', q'⟩ := hb
  refine ⟨_, pe_and p p', fun G F ρ σ H Q S w => q _ _ _ _ _ _ S ((Post.bind w).imp fun d ρ1 F1 H1 _ S1 w1 v r => ?_)⟩
  split at w1
  · exact ⟨true, rep_bl r, q' _ _ _ _ _ _ S1 w1⟩
  · exact ⟨false, rep_bl r, w1.now S1 _ (ResK.sc (.bl false) rfl)⟩
  · exact w1.elim
theorem px_or {a b : Expr} {rest : List Expr} {f g : Den} (ha : PX X W M .ow a f) (hb : PX X W M k (.BoolOp .Or (b :: rest) pos) g) : PX X W M k (.BoolOp .Or (a :: b :: rest) pos) (dOrV f g) := by
  obtain ⟨t, p, q⟩ := ha
  obtain ⟨u, p', q'⟩ := hb
  refine ⟨_, pe_or p p', fun G F ρ σ H Q S w => q _ _ _ _ _ _ S ((Post.bind w).imp fun d ρ1 F1 H1 _ S1 w1 v r => ?_)⟩
  split at w1
  · exact ⟨true, rep_bl r, w1.now S1 _ (ResK.sc (.bl true) rfl)⟩
  · exact ⟨false, rep_bl r, q' _ _ _ _ _ _ S1 w1⟩
  · exact w1.elim
theorem px_not {a : Expr} {f : Den} (h : PX X W M .ow a f) : PX X W M k (.UnaryOp .Not a pos) (dNotV f) := by
  obtain ⟨t, p, q⟩ := h
  refine ⟨_, pe_not p, fun G F ρ σ H Q S w => q _ _ _ _ _ _ S ((Post.bind w).imp fun d ρ1 F1 H1 _ S1 w1 v r => ?_)⟩
  split at w1
  · exact ⟨_, rep_bl r, w1.now S1 _ (ResK.sc (.bl _) rfl)⟩
  · exact w1.elim
def dIf (c : DenB) (f g : Den) : Den := fun ρ => (c ρ).bind fun b ρ => if b = true then f ρ else g ρ
theorem px_if {c a b : Expr} {fc : DenB} {f g : Den} (hc : PXT X W M c fc) (ha : PX X W M k a f) (hb : PX X W M k b g) : PX X W M k (.IfExp c a b pos) (dIf fc f g) := by
  obtain ⟨tc, pc, qc⟩ := hc
  obtain ⟨t, p, q⟩ := ha
  obtain ⟨u, p', q'⟩ := hb
  refine ⟨_, pe_ifExp pc p p', fun G F ρ σ H Q S w => qc _ _ _ _ _ _ S ((Post.bind w).imp fun b ρ1 F1 H1 _ S1 w1 => ?_)⟩
  cases b with
  | true => exact q _ _ _ _ _ _ S1 w1
  | false => exact q' _ _ _ _ _ _ S1 w1
/-- a op b op' c -/
def dChain (g g' : PyData → PyData → Option PyData) (fa fb fc : Den) : Den := fun ρ => (fa ρ).bind fun a ρ => (fb ρ).bind fun b ρ => match g a b with
  | some (.bool true) => (fc ρ).bind fun c ρ => match g' b c with
    | some d => .ok d ρ
    | none => .bad
  | some (.bool false) => .ok (.bool false) ρ
  | _ => .bad
theorem chain_run {r r' : R2} {op op' : CmpOp} {g g' : PyData → PyData → Option PyData} (q1 : ∀ (W : WX) G F ρ σ H x y dx dy d Q, SR (kt X) M G F ρ σ H → Brw (kt X) H F dx x → Brw (kt X) H F dy y → g dx dy = some d →
      Post X W M G F σ (.ok d ρ) (fun d ρ' F' H' => ∀ v, ResK .ow (kt X) M G F' H' ρ' σ v d → Q v H') → r x y H Q)
    (q2 : ∀ (W : WX) G F ρ σ H x y dx dy d Q, SR (kt X) M G F ρ σ H → Brw (kt X) H F dx x → Brw (kt X) H F dy y → g' dx dy = some d →
      Post X W M G F σ (.ok d ρ) (fun d ρ' F' H' => ∀ v, ResK k (kt X) M G F' H' ρ' σ v d → Q v H') → r' x y H Q)
    {ta tb tc : TE} {fa fb fc : Den} (qa : ∀ G F ρ σ H Q, SR (kt X) M G F ρ σ H → Post X W M G F σ (fa ρ) (fun d ρ' F' H' => ∀ v, ResK .sh (kt X) M G F' H' ρ' σ v d → Q v H') → ta σ H Q)
    (qb : ∀ G F ρ σ H Q, SR (kt X) M G F ρ σ H → Post X W M G F σ (fb ρ) (fun d ρ' F' H' => ∀ v, ResK .sh (kt X) M G F' H' ρ' σ v d → Q v H') → tb σ H Q)
    (qc : ∀ G F ρ σ H Q, SR (kt X) M G F ρ σ H → Post X W M G F σ (fc ρ) (fun d ρ' F' H' => ∀ v, ResK .ow (kt X) M G F' H' ρ' σ v d → Q v H') → tc σ H Q)
    {G F H : Hp} {ρ : Env} {σ : St} {Q : VK} (S : SR (kt X) M G F ρ σ H) (w : Post X W M G F σ (dChain g g' fa fb fc ρ) fun d ρ' F' H' => ∀ v, ResK k (kt X) M G F' H' ρ' σ v d → Q v H') : tChain r r' ta tb tc σ H Q := by
  refine qa _ _ _ _ _ _ S ((Post.bind w).imp fun da ρ1 F1 H1 _ S1 w1 x rx => ?_)
  refine qb _ _ _ _ _ _ S1 ((Post.bind w1).imp fun db ρ2 F2 H2 s2 S2 w2 y ry => ?_)
  split at w2
  · rename_i e
    refine q1 W _ _ _ _ _ _ _ _ _ _ _ S2 (.rep (Rep.mono s2 rx)) (.rep ry) e fun F3 H3 s3 S3 z rz => ⟨true, rep_bl rz, ?_⟩
    rw [if_pos rfl]
    refine qc _ _ _ _ _ _ S3 ((Post.bind (Post.up s3 w2)).imp fun dc ρ4 F4 H4 s4 S4 w4 z' rz' => ?_)
    split at w4
    · rename_i d e'
      exact q2 W _ _ _ _ _ _ _ _ _ _ _ S4 (.rep (Rep.mono (s3.tr s4) ry)) rz' e' w4
    · exact w4.elim
  · rename_i e
    refine q1 W _ _ _ _ _ _ _ _ _ _ _ S2 (.rep (Rep.mono s2 rx)) (.rep ry) e fun F3 H3 s3 S3 z rz => ⟨false, rep_bl rz, ?_⟩
    rw [if_neg Bool.false_ne_true]
    exact w2 F3 H3 s3 S3 _ (ResK.sc (.bl false) rfl)
  · exact w2.elim
theorem px_chain {op op' : CmpOp} {g g' : PyData → PyData → Option PyData} {a b c : Expr} {fa fb fc : Den} (h : OpD X M .ow (compareOp op) g) (h' : OpD X M k (compareOp op') g') (ha : PX X W M .sh a fa) (hb : PX X W M .sh b fb) (hc : PX X W M .ow c fc)
    (hm : lastMarks [op, op'] [b, c] = false := by with_unfolding_all rfl) : PX X W M k (.Compare a [op, op'] [b, c] pos) (dChain g g' fa fb fc) := by
  obtain ⟨r, o, q⟩ := h
  obtain ⟨r', o', q'⟩ := h'
  obtain ⟨ta, pa, qa⟩ := ha
  obtain ⟨tb, pb, qb⟩ := hb
  obtain ⟨tc, pc, qc⟩ := hc
  exact ⟨_, pe_chain o o' pa pb pc hm, fun G F ρ σ H Q S w => chain_run (op := op) (op' := op') q q' qa qb qc S w⟩
theorem pxt_chain {op op' : CmpOp} {g g' : PyData → PyData → Option PyData} {a b c : Expr} {fa fb fc : Den} (h : OpD X M .ow (compareOp op) g) (h' : OpD X M .ow (compareOp op') g') (ha : PX X W M .sh a fa) (hb : PX X W M .sh b fb) (hc : PX X W M .ow c fc)
    (hm : lastMarks [op, op'] [b, c] = false := by with_unfolding_all rfl) : PXT X W M (.Compare a [op, op'] [b, c] pos) (dB (dChain g g' fa fb fc)) := by
  obtain ⟨r, o, q⟩ := h
  obtain ⟨r', o', q'⟩ := h'
  obtain ⟨ta, pa, qa⟩ := ha
  obtain ⟨tb, pb, qb⟩ := hb
  obtain ⟨tc, pc, qc⟩ := hc
  refine ⟨_, pt_chain o o' pa pb pc hm, fun G F ρ σ H Q S w => chain_run (op := op) (op' := op') q q' qa qb qc S ((Post.bind w).imp fun d ρ1 F1 H1 _ S1 w1 v r => ?_)⟩
  split at w1
  · exact ⟨_, rep_bl r, w1.now S1⟩
  · exact w1.elim
end
end PD

set_option Elab.async false
set_option linter.all false
set_option maxRecDepth 100000
set_option maxHeartbeats 1000000
set_option autoImplicit false
namespace PD
open PySem L2
section
variable {X : Cx} {W : WX} {M : List Md} {k : Kd} {pos : Pos}

theorem brw_int {T : Kt} {H F : Hp} {i : Int} {v : V} (r : Brw T H F (.int i) v) : v = .int i := by
  cases r with
  | rep r => cases r; rfl
  | top t => cases t
theorem brw_str {T : Kt} {H F : Hp} {x : Str} {v : V} (r : Brw T H F (.str x) v) : v = .str x := by
  cases r with
  | rep r => cases r; rfl
  | top t => cases t
theorem brw_non {T : Kt} {H F : Hp} {v : V} (r : Brw T H F .none v) : v = .non := by
  cases r with
  | rep r => cases r; rfl
  | top t => cases t
theorem brw_lst {T : Kt} {H F : Hp} {ds : List PyData} {v : V} (s : Sub F H) (r : Brw T H F (.list ds) v) : ∃ a xs, v = .ref a ∧ Rd H a (.lst xs) ∧ RepAll T F ds xs := by
  cases r with
  | rep r => cases r with | lst h a => exact ⟨_, _, rfl, sub_r s h, a⟩
  | top t => cases t with | lst h a => exact ⟨_, _, rfl, .inl h, a⟩
theorem brw_tup {T : Kt} {H F : Hp} {ds : List PyData} {v : V} (r : Brw T H F (.tuple ds) v) : ∃ a xs, v = .ref a ∧ TupC T.K F a xs ∧ RepAll T F ds xs := by
  cases r with
  | rep r => cases r with | tup h a => exact ⟨_, _, rfl, h, a⟩
  | top t => cases t
theorem brw_flat {T : Kt} {H F : Hp} {d : PyData} {v : V} (r : Brw T H F d v) (h : isMut d = false) : Rep T F d v := r.scal h

/-! ### ints -/
def gI (C : Int → Int → Prop) [∀ i j, Decidable (C i j)] (f : Int → Int → PyData) : PyData → PyData → Option PyData
  | .int i, .int j => if C i j then some (f i j) else none
  | _, _ => none
theorem opd_I {op : Value → Value → Sem Value} {C : Int → Int → Prop} [∀ i j, Decidable (C i j)] {g : Int → Int → V} {f : Int → Int → PyData} (h : OpR X op (rI C g)) (hf : ∀ T H i j, Rep T H (f i j) (g i j)) (hm : ∀ i j, isMut (f i j) = false) : OpD X M k op (gI C f) := by
  refine ⟨_, h, fun W G F ρ σ H x y dx dy d Q S bx b_y e p => ?_⟩
  unfold gI at e
  split at e
  · rename_i i j
    split at e
    · rename_i hc
      cases e
      exact ⟨i, j, brw_int bx, brw_int b_y, hc, p.now S _ (ResK.sc (hf _ _ i j) (hm i j))⟩
    · cases e
  · cases e
def gI0 (f : Int → Int → PyData) : PyData → PyData → Option PyData
  | .int i, .int j => some (f i j)
  | _, _ => none
theorem opd_I0 {op : Value → Value → Sem Value} {g : Int → Int → V} {f : Int → Int → PyData} (h : OpR X op (rI0 g)) (hf : ∀ T H i j, Rep T H (f i j) (g i j)) (hm : ∀ i j, isMut (f i j) = false) : OpD X M k op (gI0 f) := by
  refine ⟨_, h, fun W G F ρ σ H x y dx dy d Q S bx b_y e p => ?_⟩
  unfold gI0 at e
  split at e
  · rename_i i j
    cases e
    exact ⟨i, j, brw_int bx, brw_int b_y, p.now S _ (ResK.sc (hf _ _ i j) (hm i j))⟩
  · cases e
theorem od_sub : OpD X M k (binaryOp .Sub) (gI0 fun i j => .int (i - j)) := opd_I0 op_sub (fun _ _ _ _ => .int _) fun _ _ => rfl
instance (i j : Int) : Decidable (CMul i j) := by unfold CMul; infer_instance
instance (i j : Int) : Decidable (CDiv i j) := by unfold CDiv; infer_instance
instance (i j : Int) : Decidable (CPow i j) := by unfold CPow; infer_instance
theorem od_mod : OpD X M k (binaryOp .Mod) (gI (fun _ j => 0 < j) fun i j => .int (i % j)) := opd_I op_mod (fun _ _ _ _ => .int _) fun _ _ => rfl
theorem od_fdiv : OpD X M k (binaryOp .FloorDiv) (gI CDiv fun i j => .int (i / j)) := opd_I op_fdiv (fun _ _ _ _ => .int _) fun _ _ => rfl
theorem od_shl : OpD X M k (binaryOp .LShift) (gI CPow fun i j => .int (i * 2 ^ j.toNat)) := opd_I op_shl (fun _ _ _ _ => .int _) fun _ _ => rfl
theorem od_shr : OpD X M k (binaryOp .RShift) (gI (fun _ j => 0 ≤ j) fun i j => .int (i / 2 ^ j.toNat)) := opd_I op_shr (fun _ _ _ _ => .int _) fun _ _ => rfl
theorem od_band : OpD X M k (binaryOp .BitAnd) (gI0 fun i j => .int (Builtin.bitAnd i j)) := opd_I0 op_and (fun _ _ _ _ => .int _) fun _ _ => rfl
theorem od_bor : OpD X M k (binaryOp .BitOr) (gI0 fun i j => .int (Builtin.bitOr i j)) := opd_I0 op_or (fun _ _ _ _ => .int _) fun _ _ => rfl
theorem od_bxor : OpD X M k (binaryOp .BitXor) (gI0 fun i j => .int (Builtin.bitXor i j)) := opd_I0 op_xor (fun _ _ _ _ => .int _) fun _ _ => rfl
theorem od_lt : OpD X M k (compareOp .Lt) (gI0 fun i j => .bool (decide (i < j))) := opd_I0 op_lt (fun _ _ _ _ => .bl _) fun _ _ => rfl
theorem od_le : OpD X M k (compareOp .LtE) (gI0 fun i j => .bool (decide (i ≤ j))) := opd_I0 op_le (fun _ _ _ _ => .bl _) fun _ _ => rfl
theorem od_gt : OpD X M k (compareOp .Gt) (gI0 fun i j => .bool (decide (j < i))) := opd_I0 op_gt (fun _ _ _ _ => .bl _) fun _ _ => rfl
theorem od_ge : OpD X M k (compareOp .GtE) (gI0 fun i j => .bool (decide (j ≤ i))) := opd_I0 op_ge (fun _ _ _ _ => .bl _) fun _ _ => rfl

/-! ### + -/
def gAddS : PyData → PyData → Option PyData
  | .str x, .str y => if x.length + y.length ≤ sizeLine then some (.str (x ++ y)) else none
  | _, _ => none
def gAddL : PyData → PyData → Option PyData
  | .list x, .list y => if x.length + y.length ≤ sizeLine then some (.list (x ++ y)) else none
  | _, _ => none
def gAddT : PyData → PyData → Option PyData
  | .tuple x, .tuple y => if x.length + y.length ≤ sizeLine then some (.tuple (x ++ y)) else none
  | _, _ => none
theorem od_addS : OpD X M k (binaryOp .Add) gAddS := by
  refine ⟨_, op_add_str, fun W G F ρ σ H x y dx dy d Q S bx b_y e p => ?_⟩
  unfold gAddS at e
  split at e
  · split at e
    · rename_i hc
      cases e
      exact ⟨_, _, brw_str bx, brw_str b_y, hc, p.now S _ (ResK.sc (.str _) rfl)⟩
    · cases e
  · cases e
/-- xs + ys -/
def rCatR : R2 := fun x y H Q => ∃ l b xs zs, x = .ref l ∧ y = .ref b ∧ Rd H l (.lst xs) ∧ Rd H b (.lst zs) ∧ xs.length + zs.length ≤ sizeLine ∧ ∀ p, H p = none → Q (.ref p) (upd H p (.lst (xs ++ zs)))
theorem op_catR : OpR X (binaryOp .Add) rCatR := by
  intro pins s σ H x y v u Q I rx ry h
  obtain ⟨l, b, xs, zs, rfl, rfl, hH, hB, hz, q⟩ := h
  cases rx
  cases ry
  obtain ⟨z, its, n, r, e⟩ := hH.ok I.hok
  obtain ⟨z2, its2, n2, r2, e2⟩ := hB.ok I.hok
  have hl := r.length
  have hl2 := r2.length
  refine PySem.P.add_list e e2 ?_ (by rw [List.size_toArray, List.size_toArray]; omega)
  rw [show its.toArray ++ its2.toArray = (its ++ its2).toArray by simp]
  exact ⟨.ref _, _, I.lnew (t' := s.toks) (r.append r2) (by rw [List.length_append]; omega), rfl, q _ I.fresh⟩
theorem od_addL : OpD X M .fr (binaryOp .Add) gAddL := by
  refine ⟨_, op_catR, fun W G F ρ σ H x y dx dy d Q S bx b_y e p => ?_⟩
  unfold gAddL at e
  split at e
  · split at e
    · rename_i hc
      cases e
      obtain ⟨a, xs, rfl, ha, ra⟩ := brw_lst S.fh bx
      obtain ⟨b, ys, rfl, hb, rb⟩ := brw_lst S.fh b_y
      exact ⟨a, b, xs, ys, rfl, rfl, ha, hb, by rw [← ra.length, ← rb.length]; exact hc, fun q hq => new_lst S (ra.append rb) p hq⟩
    · cases e
  · cases e
theorem od_addT : OpD X M k (binaryOp .Add) gAddT := by
  refine ⟨_, op_catC, fun W G F ρ σ H x y dx dy d Q S bx b_y e p => ?_⟩
  unfold gAddT at e
  split at e
  · rename_i ds es
    split at e
    · rename_i hc
      cases e
      obtain ⟨a, xs, rfl, ha, ra⟩ := brw_tup bx
      obtain ⟨b, ys, rfl, hb, rb⟩ := brw_tup b_y
      refine ⟨a, b, xs, ys, rfl, rfl, tupC_sq (sub_c S.fh ha), tupC_sq (sub_c S.fh hb), by rw [← ra.length, ← rb.length]; exact hc, fun hx => ?_, fun hx hy => ?_, fun hx hy q ob hq hb => new_tup S (ra.append rb) p hq hb⟩
      · subst hx
        cases ra
        exact p.now S _ (ResK.sc (.tup hb rb) rfl)
      · subst hy
        cases rb
        exact p.now S _ (ResK.sc (.tup ha (by rw [List.append_nil]; exact ra)) rfl)
    · cases e
  · cases e
def oAddI : PyData → PyData → Option PyData := gI0 fun i j => .int (i + j)
theorem od_addI : OpD X M k (binaryOp .Add) oAddI := opd_I0 op_add (fun _ _ _ _ => .int _) fun _ _ => rfl
/-- a + b of one kind -/
def oAdd : PyData → PyData → Option PyData
  | .int i, .int j => some (.int (i + j))
  | .str x, .str y => if x.length + y.length ≤ sizeLine then some (.str (x ++ y)) else none
  | .list x, .list y => if x.length + y.length ≤ sizeLine then some (.list (x ++ y)) else none
  | .tuple x, .tuple y => if x.length + y.length ≤ sizeLine then some (.tuple (x ++ y)) else none
  | _, _ => none
theorem od_add : OpD X M .fr (binaryOp .Add) oAdd := by
  refine ((od_addI.or od_addS).or (od_addL.or od_addT)).imp fun a b d e => ?_
  cases a <;> cases b <;> simp only [oAdd, oAddI, gI0, gAddS, gAddL, gAddT, reduceCtorEq] at e ⊢ <;> first | exact e | (split at e <;> simp_all)
/-! ### * ** -/
def gRepT : PyData → PyData → Option PyData
  | .tuple xs, .int j => if xs ≠ [] ∧ 2 ≤ j ∧ j ≤ 1000 ∧ xs.length ≤ 1000 then some (.tuple (List.replicate j.toNat xs).flatten) else none
  | _, _ => none
theorem RepAll.rep {T : Kt} {H : Hp} {ds : List PyData} {vs : List V} (r : RepAll T H ds vs) : ∀ n : Nat, RepAll T H (List.replicate n ds).flatten (List.replicate n vs).flatten
  | 0 => .nil
  | n + 1 => by rw [List.replicate_succ, List.replicate_succ, List.flatten_cons, List.flatten_cons]; exact r.append (r.rep n)
theorem od_pow : OpD X M k (binaryOp .Pow) (gI CPow fun i j => .int (i ^ j.toNat)) := opd_I op_pow (fun _ _ _ _ => .int _) fun _ _ => rfl
theorem od_mul : OpD X M k (binaryOp .Mult) (gI CMul fun i j => .int (i * j)) := opd_I op_mul (fun _ _ _ _ => .int _) fun _ _ => rfl

/-! ### == != in, of data without dicts -/
def okD (d : PyData) : Bool := d.plain && decide (d.depth ≤ 64)
def gEq (a b : PyData) : Option PyData := if okD a && okD b then some (.bool (PyData.eqv a b)) else none
def gNe (a b : PyData) : Option PyData := if okD a && okD b then some (.bool (!PyData.eqv a b)) else none
def gIn (a b : PyData) : Option PyData := match b with
  | .list xs => if okD a && okD b then some (.bool (xs.any fun y => PyData.eqv y a)) else none
  | .tuple xs => if okD a && okD b then some (.bool (xs.any fun y => PyData.eqv y a)) else none
  | _ => none
def gNotIn (a b : PyData) : Option PyData := match b with
  | .list xs => if okD a && okD b then some (.bool (!xs.any fun y => PyData.eqv y a)) else none
  | .tuple xs => if okD a && okD b then some (.bool (!xs.any fun y => PyData.eqv y a)) else none
  | _ => none
theorem okD_and {a b : PyData} (h : (okD a && okD b) = true) : (a.plain = true ∧ a.depth ≤ 64) ∧ b.plain = true ∧ b.depth ≤ 64 := by
  simpa [okD, Bool.and_eq_true] using h
/-- by data on both sides -/
def rD2 (T : Kt) (g : PyData → PyData → Option PyData) : R2 := fun x y H Q => ∃ a b c, Rep T H a x ∧ Rep T H b y ∧ g a b = some (.bool c) ∧ Q (.bl c) H
theorem opd_D {f : Value → Value → Sem Value} {g : PyData → PyData → Option PyData} (h : OpR X f (rD2 (kt X) g)) (hb : ∀ a b d, g a b = some d → ∃ c, d = .bool c) : OpD X M k f g := by
  refine ⟨_, h, fun W G F ρ σ H x y dx dy d Q S bx b_y e p => ?_⟩
  obtain ⟨c, rfl⟩ := hb _ _ _ e
  exact ⟨dx, dy, c, bx.rep' S.fh, b_y.rep' S.fh, e, p.now S _ (ResK.sc (.bl c) rfl)⟩
theorem od_eq (hu : X.A.units + 200 < cLine) : OpD X M k (compareOp .Eq) gEq := by
  refine opd_D (fun pins s σ H x y v u Q I rx ry h => ?_) fun a b d e => ?_
  · obtain ⟨a, b, c, ra, rb, e, q⟩ := h
    unfold gEq at e
    split at e
    · rename_i ok
      cases e
      obtain ⟨⟨pa, da⟩, pb, db⟩ := okD_and ok
      obtain ⟨as, r1⟩ := Rep.rd I ra pa rx
      obtain ⟨bs, r2⟩ := Rep.rd I rb pb ry
      exact SeqAt.eq_plain r1 r2 pa pb (by omega) ⟨.bl _, H, I, rfl, q⟩
    · cases e
  · unfold gEq at e
    split at e <;> cases e
    exact ⟨_, rfl⟩
theorem od_ne (hu : X.A.units + 200 < cLine) : OpD X M k (compareOp .NotEq) gNe := by
  refine opd_D (fun pins s σ H x y v u Q I rx ry h => ?_) fun a b d e => ?_
  · obtain ⟨a, b, c, ra, rb, e, q⟩ := h
    unfold gNe at e
    split at e
    · rename_i ok
      cases e
      obtain ⟨⟨pa, da⟩, pb, db⟩ := okD_and ok
      obtain ⟨as, r1⟩ := Rep.rd I ra pa rx
      obtain ⟨bs, r2⟩ := Rep.rd I rb pb ry
      exact SeqAt.ne_plain r1 r2 pa pb (by omega) ⟨.bl _, H, I, rfl, q⟩
    · cases e
  · unfold gNe at e
    split at e <;> cases e
    exact ⟨_, rfl⟩
theorem depth_l {xs : List PyData} (h : (PyData.list xs).depth ≤ 64) : PyData.depthAll xs ≤ 64 := by simp only [PyData.depth] at h; omega
theorem depth_t {xs : List PyData} (h : (PyData.tuple xs).depth ≤ 64) : PyData.depthAll xs ≤ 64 := by simp only [PyData.depth] at h; omega
theorem od_in (hu : X.A.units + 200 < cLine) : OpD X M k (compareOp .In) gIn := by
  refine opd_D (fun pins s σ H x y v u Q I rx ry h => ?_) fun a b d e => ?_
  · obtain ⟨a, b, c, ra, rb, e, q⟩ := h
    unfold gIn at e
    split at e
    all_goals first
      | (split at e
         · rename_i xs ok
           cases e
           obtain ⟨⟨pa, da⟩, pb, db⟩ := okD_and ok
           obtain ⟨as, r1⟩ := Rep.rd I ra pa rx
           obtain ⟨bs, r2⟩ := Rep.rd I rb pb ry
           first
             | exact SeqAt.in_list_data r2 r1 (by simpa [PyData.plain] using pb) pa (by have := depth_l db; omega) ⟨.bl _, H, I, rfl, q⟩
             | exact SeqAt.in_tuple_data r2 r1 (by simpa [PyData.plain] using pb) pa (by have := depth_t db; omega) ⟨.bl _, H, I, rfl, q⟩
         · cases e)
      | cases e
  · unfold gIn at e
    split at e <;> (try split at e) <;> cases e <;> exact ⟨_, rfl⟩
theorem od_notIn (hu : X.A.units + 200 < cLine) : OpD X M k (compareOp .NotIn) gNotIn := by
  refine opd_D (fun pins s σ H x y v u Q I rx ry h => ?_) fun a b d e => ?_
  · obtain ⟨a, b, c, ra, rb, e, q⟩ := h
    unfold gNotIn at e
    split at e
    all_goals first
      | (split at e
         · rename_i xs ok
           cases e
           obtain ⟨⟨pa, da⟩, pb, db⟩ := okD_and ok
           obtain ⟨as, r1⟩ := Rep.rd I ra pa rx
           obtain ⟨bs, r2⟩ := Rep.rd I rb pb ry
           first
             | exact SeqAt.notIn_list_data r2 r1 (by simpa [PyData.plain] using pb) pa (by have := depth_l db; omega) ⟨.bl _, H, I, rfl, q⟩
             | exact SeqAt.notIn_tuple_data r2 r1 (by simpa [PyData.plain] using pb) pa (by have := depth_t db; omega) ⟨.bl _, H, I, rfl, q⟩
         · cases e)
      | cases e
  · unfold gNotIn at e
    split at e <;> (try split at e) <;> cases e <;> exact ⟨_, rfl⟩
/-- one sign in a text -/
def gInS : PyData → PyData → Option PyData
  | .str x, .str y => some (.bool (!(Builtin.Str.occurrences y x 0 y.length 1).isEmpty))
  | _, _ => none
theorem od_inS : OpD X M k (compareOp .In) gInS := by
  refine ⟨_, op_in_str, fun W G F ρ σ H x y dx dy d Q S bx b_y e p => ?_⟩
  unfold gInS at e
  split at e
  · cases e
    exact ⟨_, _, brw_str bx, brw_str b_y, p.now S _ (ResK.sc (.bl _) rfl)⟩
  · cases e
/-- is None -/
def isNn : PyData → Bool
  | .none => true
  | .bool _ => false
  | .int _ => false
  | .str _ => false
  | .list _ => false
  | .tuple _ => false
  | .dict _ => false
def gIsN (a b : PyData) : Option PyData := match b with
  | .none => some (.bool (isNn a))
  | _ => none
def gNotN (a b : PyData) : Option PyData := match b with
  | .none => some (.bool (!isNn a))
  | _ => none
theorem brw_isN {T : Kt} {H F : Hp} {d : PyData} {v : V} (r : Brw T H F d v) : decide (v = .non) = isNn d := by
  cases r with
  | rep r => cases r <;> simp [isNn]
  | top t => cases t <;> simp [isNn]
theorem od_isN : OpD X M k (compareOp .Is) gIsN := by
  refine ⟨_, op_isN, fun W G F ρ σ H x y dx dy d Q S bx b_y e p => ?_⟩
  unfold gIsN at e
  split at e
  · cases e
    exact ⟨brw_non b_y, by rw [brw_isN bx]; exact p.now S _ (ResK.sc (.bl _) rfl)⟩
  · cases e
theorem od_notN : OpD X M k (compareOp .IsNot) gNotN := by
  refine ⟨_, op_notN, fun W G F ρ σ H x y dx dy d Q S bx b_y e p => ?_⟩
  unfold gNotN at e
  split at e
  · cases e
    exact ⟨brw_non b_y, by rw [brw_isN bx]; exact p.now S _ (ResK.sc (.bl _) rfl)⟩
  · cases e

/-! ### calls of built-ins with one value -/
def d1 (g : PyData → Option PyData) (f : Den) : Den := fun ρ => (f ρ).bind fun a ρ => match g a with
  | some d => .ok d ρ
  | none => .bad
def Cal1 (X : Cx) (M : List Md) (k : Kd) (f : Value) (g : PyData → Option PyData) : Prop :=
  ∃ r, CallR X f r ∧ ∀ (W : WX) G F ρ σ H x dx d Q, SR (kt X) M G F ρ σ H → Brw (kt X) H F dx x → g dx = some d →
    Post X W M G F σ (.ok d ρ) (fun d ρ' F' H' => ∀ v, ResK k (kt X) M G F' H' ρ' σ v d → Q v H') → r [x] H Q
theorem Cal1.or {f : Value} {g g' : PyData → Option PyData} (h : Cal1 X M k f g) (h' : Cal1 X M k f g') : Cal1 X M k f fun a => match g a with | some d => some d | none => g' a := by
  obtain ⟨r, o, q⟩ := h
  obtain ⟨r', o', q'⟩ := h'
  refine ⟨_, CallR.or o o', fun W G F ρ σ H x dx d Q S bx e p => ?_⟩
  dsimp only at e
  split at e
  · rename_i d' e'
    exact .inl (q W G F ρ σ H x dx d Q S bx (e'.trans e) p)
  · exact .inr (q' W G F ρ σ H x dx d Q S bx e p)
theorem Cal1.imp {f : Value} {g g' : PyData → Option PyData} (h : Cal1 X M k f g) (hg : ∀ a d, g' a = some d → g a = some d) : Cal1 X M k f g' := by
  obtain ⟨r, o, q⟩ := h
  exact ⟨r, o, fun W G F ρ σ H x dx d Q S bx e p => q W G F ρ σ H x dx d Q S bx (hg _ _ e) p⟩
theorem px_callB {id : String} {g : PyData → Option PyData} {x : Str} {p : Pos} {e : Expr} {f : Den} (hc : Cal1 X M k (.builtin id) g) (hg : Gl X x) (hm : X.mg x = none) (hv : bootBuiltins x = some (.builtin id)) (ha : PX X W M .ow e f) (hn : x ≠ "__name__" := by decide) (hdb : (x == ("__debug__" : Str)) = false := by decide)
    (he : starEach [e] X.env = (false, eval e X.env) :: starEach [] X.env := by rfl) (hpl : (backTo pos (starEach [] X.env)).any (·.1) = false := by rfl) : PX X W M k (.Call (.Name x p) [e] [] pos) (d1 g f) := by
  obtain ⟨r, o, q⟩ := hc
  obtain ⟨t, pt, qt⟩ := ha
  refine ⟨_, pe_callB o hg hm hv (pa_cons pt pa_nil he) hn hdb he hpl, fun G F ρ σ H Q S w => qt _ _ _ _ _ _ S ((Post.bind w).imp fun d ρ1 F1 H1 _ S1 w1 v rv => ?_)⟩
  split at w1
  · rename_i d' e'
    exact q W _ _ _ _ _ _ _ _ _ S1 rv e' w1
  · exact w1.elim
theorem px_callT {T : String} {g : PyData → Option PyData} {x : Str} {p : Pos} {e : Expr} {f : Den} (hc : Cal1 X M k (.type T) g) (hg : Gl X x) (hm : X.mg x = none) (hv : bootBuiltins x = some (.type T)) (ha : PX X W M .ow e f) (hn : x ≠ "__name__" := by decide) (hdb : (x == ("__debug__" : Str)) = false := by decide)
    (he : starEach [e] X.env = (false, eval e X.env) :: starEach [] X.env := by rfl) (hpl : (backTo pos (starEach [] X.env)).any (·.1) = false := by rfl) : PX X W M k (.Call (.Name x p) [e] [] pos) (d1 g f) := by
  obtain ⟨r, o, q⟩ := hc
  obtain ⟨t, pt, qt⟩ := ha
  refine ⟨_, pe_callTy o hg hm hv (pa_cons pt pa_nil he) hn hdb he hpl, fun G F ρ σ H Q S w => qt _ _ _ _ _ _ S ((Post.bind w).imp fun d ρ1 F1 H1 _ S1 w1 v rv => ?_)⟩
  split at w1
  · rename_i d' e'
    exact q W _ _ _ _ _ _ _ _ _ S1 rv e' w1
  · exact w1.elim
/-- len -/
def gLen : PyData → Option PyData
  | .list xs => some (.int xs.length)
  | .tuple xs => some (.int xs.length)
  | .str x => if x.length ≤ sizeLine then some (.int x.length) else none
  | _ => none
theorem cd_len : Cal1 X M k (.builtin "len") gLen := by
  refine ⟨_, CallR.or call_len_seq call_len_str, fun W G F ρ σ H x dx d Q S bx e p => ?_⟩
  unfold gLen at e
  split at e
  · cases e
    obtain ⟨a, xs, rfl, ha, ra⟩ := brw_lst S.fh bx
    exact .inl ⟨a, xs, rfl, .inl (.inl ha), by rw [← ra.length]; exact p.now S _ (ResK.sc (.int _) rfl)⟩
  · cases e
    obtain ⟨a, xs, rfl, ha, ra⟩ := brw_tup bx
    exact .inl ⟨a, xs, rfl, .inr (tupC_sq (sub_c S.fh ha)), by rw [← ra.length]; exact p.now S _ (ResK.sc (.int _) rfl)⟩
  · split at e
    · rename_i hz
      cases e
      exact .inr ⟨_, by rw [brw_str bx], hz, p.now S _ (ResK.sc (.int _) rfl)⟩
    · cases e
  · cases e
/-- tuple(..), list(..) of a list or a tuple -/
def gTuple : PyData → Option PyData
  | .list xs => some (.tuple xs)
  | .tuple xs => some (.tuple xs)
  | _ => none
theorem cd_tuple : Cal1 X M k (.type "tuple") gTuple := by
  refine ⟨_, call_tupleC, fun W G F ρ σ H x dx d Q S bx e p => ?_⟩
  unfold gTuple at e
  split at e
  · cases e
    obtain ⟨a, xs, rfl, ha, ra⟩ := brw_lst S.fh bx
    exact ⟨a, xs, rfl, .inl ⟨.inl ha, fun l ob hl hb => new_tup S ra p hl hb⟩⟩
  · cases e
    obtain ⟨a, xs, rfl, ha, ra⟩ := brw_tup bx
    exact ⟨a, xs, rfl, .inr ⟨tupC_sq (sub_c S.fh ha), p.now S _ (ResK.sc (.tup ha ra) rfl)⟩⟩
  · cases e
def gList : PyData → Option PyData
  | .list xs => some (.list xs)
  | .tuple xs => some (.list xs)
  | _ => none
theorem cd_list : Cal1 X M .fr (.type "list") gList := by
  refine ⟨_, call_list_of, fun W G F ρ σ H x dx d Q S bx e p => ?_⟩
  unfold gList at e
  split at e
  · cases e
    obtain ⟨a, xs, rfl, ha, ra⟩ := brw_lst S.fh bx
    exact ⟨a, xs, rfl, .inl (.inl ha), fun l hl => new_lst S ra p hl⟩
  · cases e
    obtain ⟨a, xs, rfl, ha, ra⟩ := brw_tup bx
    exact ⟨a, xs, rfl, .inr (tupC_sq (sub_c S.fh ha)), fun l hl => new_lst S ra p hl⟩
  · cases e
/-- int(..) of an int, a truth -/
def gInt : PyData → Option PyData
  | .int i => some (.int i)
  | .bool b => some (.int (if b then 1 else 0))
  | _ => none
theorem cd_int : Cal1 X M k (.type "int") gInt := by
  refine ⟨_, call_int1, fun W G F ρ σ H x dx d Q S bx e p => ?_⟩
  unfold gInt at e
  split at e
  · cases e
    exact .inl ⟨_, by rw [brw_int bx], p.now S _ (ResK.sc (.int _) rfl)⟩
  · cases e
    exact .inr ⟨_, by rw [rep_bl bx], p.now S _ (ResK.sc (.int _) rfl)⟩
  · cases e
/-- all, any of a list of truths; sum, min, max of ints -/
def blsOf : List PyData → Option (List Bool)
  | [] => some []
  | .bool b :: r => (blsOf r).map (b :: ·)
  | _ :: _ => none
def intsOf : List PyData → Option (List Int)
  | [] => some []
  | .int i :: r => (intsOf r).map (i :: ·)
  | _ :: _ => none
theorem bls_rep {T : Kt} {H : Hp} : ∀ {ds : List PyData} {xs : List V} {bs : List Bool}, RepAll T H ds xs → blsOf ds = some bs → xs = bs.map V.bl
  | _, _, _, .nil, e => by cases e; rfl
  | d :: ds, _, bs, .cons h a, e => by
    cases d <;> simp only [blsOf] at e <;> try cases e
    cases q : blsOf ds with
    | none => rw [q] at e; cases e
    | some r =>
      rw [q] at e; cases e
      cases h
      rw [bls_rep a q]; rfl
theorem ints_rep {T : Kt} {H : Hp} : ∀ {ds : List PyData} {xs : List V} {bs : List Int}, RepAll T H ds xs → intsOf ds = some bs → xs = bs.map V.int
  | _, _, _, .nil, e => by cases e; rfl
  | d :: ds, _, bs, .cons h a, e => by
    cases d <;> simp only [intsOf] at e <;> try cases e
    cases q : intsOf ds with
    | none => rw [q] at e; cases e
    | some r =>
      rw [q] at e; cases e
      cases h
      rw [ints_rep a q]; rfl
def gAll : PyData → Option PyData
  | .list xs => (blsOf xs).map fun bs => .bool (bs.all id)
  | _ => none
def gAny : PyData → Option PyData
  | .list xs => (blsOf xs).map fun bs => .bool (bs.any id)
  | _ => none
def gSum : PyData → Option PyData
  | .list xs => (intsOf xs).map fun bs => .int bs.sum
  | _ => none
theorem cd_all (hc : X.calm = true) : Cal1 X M k (.builtin "all") gAll := by
  refine ⟨_, cr_all hc, fun W G F ρ σ H x dx d Q S bx e p => ?_⟩
  unfold gAll at e
  split at e
  · obtain ⟨a, xs, rfl, ha, ra⟩ := brw_lst S.fh bx
    cases q : blsOf _ with
    | none => rw [q] at e; cases e
    | some bs =>
      rw [q] at e; cases e
      exact ⟨a, bs, rfl, .inl (by rw [← bls_rep ra q]; exact ha), p.now S _ (ResK.sc (.bl _) rfl)⟩
  · cases e
theorem cd_any (hc : X.calm = true) : Cal1 X M k (.builtin "any") gAny := by
  refine ⟨_, cr_any hc, fun W G F ρ σ H x dx d Q S bx e p => ?_⟩
  unfold gAny at e
  split at e
  · obtain ⟨a, xs, rfl, ha, ra⟩ := brw_lst S.fh bx
    cases q : blsOf _ with
    | none => rw [q] at e; cases e
    | some bs =>
      rw [q] at e; cases e
      exact ⟨a, bs, rfl, .inl (by rw [← bls_rep ra q]; exact ha), p.now S _ (ResK.sc (.bl _) rfl)⟩
  · cases e
theorem cd_sum (hc : X.calm = true) : Cal1 X M k (.builtin "sum") gSum := by
  refine ⟨_, cr_sum hc, fun W G F ρ σ H x dx d Q S bx e p => ?_⟩
  unfold gSum at e
  split at e
  · obtain ⟨a, xs, rfl, ha, ra⟩ := brw_lst S.fh bx
    cases q : intsOf _ with
    | none => rw [q] at e; cases e
    | some bs =>
      rw [q] at e; cases e
      exact ⟨a, bs, rfl, .inl (by rw [← ints_rep ra q]; exact ha), p.now S _ (ResK.sc (.int _) rfl)⟩
  · cases e
def leastI : List Int → Option Int
  | [] => none
  | i :: r => some (r.foldl (fun a b => if b < a then b else a) i)
def mostI : List Int → Option Int
  | [] => none
  | i :: r => some (r.foldl (fun a b => if a < b then b else a) i)
def gMin : PyData → Option PyData
  | .list xs => ((intsOf xs).bind leastI).map .int
  | _ => none
def gMax : PyData → Option PyData
  | .list xs => ((intsOf xs).bind mostI).map .int
  | _ => none
theorem fold_least : ∀ (r : List Int) (i : Int), (r.foldl (fun a b => if b < a then b else a) i) ∈ i :: r ∧ ∀ y ∈ i :: r, (r.foldl (fun a b => if b < a then b else a) i) ≤ y
  | [], i => by simp
  | b :: r, i => by
    obtain ⟨h1, h2⟩ := fold_least r (if b < i then b else i)
    rw [List.foldl_cons]
    refine ⟨?_, fun y hy => ?_⟩
    · rcases List.mem_cons.mp h1 with e | h
      · rw [e]; split <;> simp
      · simp [h]
    · have q := h2 (if b < i then b else i) List.mem_cons_self
      rcases List.mem_cons.mp hy with rfl | hy
      · split at q <;> split <;> omega
      · rcases List.mem_cons.mp hy with rfl | hy
        · split at q <;> split <;> omega
        · exact h2 y (List.mem_cons_of_mem _ hy)
theorem fold_most : ∀ (r : List Int) (i : Int), (r.foldl (fun a b => if a < b then b else a) i) ∈ i :: r ∧ ∀ y ∈ i :: r, y ≤ (r.foldl (fun a b => if a < b then b else a) i)
  | [], i => by simp
  | b :: r, i => by
    obtain ⟨h1, h2⟩ := fold_most r (if i < b then b else i)
    rw [List.foldl_cons]
    refine ⟨?_, fun y hy => ?_⟩
    · rcases List.mem_cons.mp h1 with e | h
      · rw [e]; split <;> simp
      · simp [h]
    · have q := h2 (if i < b then b else i) List.mem_cons_self
      rcases List.mem_cons.mp hy with rfl | hy
      · split at q <;> split <;> omega
      · rcases List.mem_cons.mp hy with rfl | hy
        · split at q <;> split <;> omega
        · exact h2 y (List.mem_cons_of_mem _ hy)
theorem cd_min (hc : X.calm = true) : Cal1 X M k (.builtin "min") gMin := by
  refine ⟨_, cr_min hc, fun W G F ρ σ H x dx d Q S bx e p => ?_⟩
  unfold gMin at e
  split at e
  · obtain ⟨a, xs, rfl, ha, ra⟩ := brw_lst S.fh bx
    cases q : intsOf _ with
    | none => rw [q] at e; cases e
    | some bs =>
      rw [q] at e
      cases bs with
      | nil => cases e
      | cons i r =>
        cases e
        refine ⟨a, i :: r, rfl, .inl (by rw [← ints_rep ra q]; exact ha), by simp, fun m hm hl => ?_⟩
        obtain ⟨h1, h2⟩ := fold_least r i
        have em : m = r.foldl (fun a b => if b < a then b else a) i := by
          have := hl _ h1
          have := h2 m hm
          omega
        subst em
        exact p.now S _ (ResK.sc (.int _) rfl)
  · cases e
theorem cd_max (hc : X.calm = true) : Cal1 X M k (.builtin "max") gMax := by
  refine ⟨_, cr_max hc, fun W G F ρ σ H x dx d Q S bx e p => ?_⟩
  unfold gMax at e
  split at e
  · obtain ⟨a, xs, rfl, ha, ra⟩ := brw_lst S.fh bx
    cases q : intsOf _ with
    | none => rw [q] at e; cases e
    | some bs =>
      rw [q] at e
      cases bs with
      | nil => cases e
      | cons i r =>
        cases e
        refine ⟨a, i :: r, rfl, .inl (by rw [← ints_rep ra q]; exact ha), by simp, fun m hm hl => ?_⟩
        obtain ⟨h1, h2⟩ := fold_most r i
        have em : m = r.foldl (fun a b => if a < b then b else a) i := by
          have := hl _ h1
          have := h2 m hm
          omega
        subst em
        exact p.now S _ (ResK.sc (.int _) rfl)
  · cases e
/-! ### two ints -/
def dOp2 (g : PyData → PyData → Option PyData) (fa fb : Den) : Den := dOp g fa fb
theorem px_call2 {id : String} {g : Int → Int → Int} {x : Str} {p : Pos} {a b : Expr} {fa fb : Den} (hc : CallR X (.builtin id) (fun xs H Q => ∃ i j, xs = [.int i, .int j] ∧ Q (.int (g i j)) H)) (hg : Gl X x) (hm : X.mg x = none) (hv : bootBuiltins x = some (.builtin id)) (ha : PX X W M .sh a fa) (hb : PX X W M .ow b fb) (hn : x ≠ "__name__" := by decide) (hdb : (x == ("__debug__" : Str)) = false := by decide)
    (he : starEach [a, b] X.env = (false, eval a X.env) :: starEach [b] X.env := by rfl) (he2 : starEach [b] X.env = (false, eval b X.env) :: starEach [] X.env := by rfl) (hpl : (backTo pos (starEach [b] X.env)).any (·.1) = false := by rfl) : PX X W M k (.Call (.Name x p) [a, b] [] pos) (dOp (gI0 fun i j => .int (g i j)) fa fb) := by
  obtain ⟨ta, pa, qa⟩ := ha
  obtain ⟨tb, pb, qb⟩ := hb
  refine ⟨_, pe_callB hc hg hm hv (pa_cons pa (pa_cons pb pa_nil he2) he) hn hdb he hpl, fun G F ρ σ H Q S w => qa _ _ _ _ _ _ S ((Post.bind w).imp fun da ρ1 F1 H1 _ S1 w1 v rv => ?_)⟩
  refine qb _ _ _ _ _ _ S1 ((Post.bind w1).imp fun db ρ2 F2 H2 s2 S2 w2 y ry => ?_)
  split at w2
  · rename_i d e
    unfold gI0 at e
    split at e
    · cases e
      rw [brw_int (H := H1) (.rep rv), brw_int ry]
      exact ⟨_, _, rfl, w2.now S2 _ (ResK.sc (.int _) rfl)⟩
    · cases e
  · exact w2.elim
end
end PD

set_option Elab.async false
set_option linter.all false
set_option maxRecDepth 100000
set_option maxHeartbeats 1000000
set_option autoImplicit false
namespace PD
open PySem L2
section
variable {X : Cx} {W : WX} {M : List Md} {k : Kd} {pos : Pos}

/-- a result that is no list, no dict, is the asker's own -/
def dIm (f : Den) : Den := fun ρ => (f ρ).bind fun d ρ => if isMut d = true then .bad else .ok d ρ
theorem PX.im {e : Expr} {f : Den} (h : PX X W M .ow e f) : PX X W M k e (dIm f) := by
  obtain ⟨t, p, q⟩ := h
  refine ⟨t, p, fun G F ρ σ H Q S w => q _ _ _ _ _ _ S ((Post.bind w).imp fun d ρ1 F1 H1 _ S1 w1 v r => ?_)⟩
  split at w1
  · exact w1.elim
  · rename_i hm
    have hm' : isMut d = false := by simpa using hm
    exact w1.now S1 v (ResK.sc (Brw.scal r hm') hm')

/-! ### subscripts -/
/-- an item of it is told -/
def IxD (X : Cx) (M : List Md) (k : Kd) (g : PyData → PyData → Option PyData) : Prop :=
  ∃ r : R2, IxR X r ∧ ∀ (W : WX) G F ρ σ H x y dx dy d Q, SR (kt X) M G F ρ σ H → Brw (kt X) H F dx x → Brw (kt X) H F dy y → g dx dy = some d →
    Post X W M G F σ (.ok d ρ) (fun d ρ' F' H' => ∀ v, ResK k (kt X) M G F' H' ρ' σ v d → Q v H') → r x y H Q
def gIx : PyData → PyData → Option PyData
  | .list xs, .int i => atI xs i
  | .tuple xs, .int i => atI xs i
  | .str x, .int i => if x.length ≤ sizeLine then (atI x.cps.toList i).map fun c => .str ⟨#[c]⟩ else none
  | _, _ => none
theorem RepAll.atI {T : Kt} {H : Hp} {ds : List PyData} {vs : List V} {i : Int} {d : PyData} (r : RepAll T H ds vs) (h : atI ds i = some d) : ∃ v, L2.atI vs i = some v ∧ Rep T H d v := by
  unfold L2.atI at h ⊢
  rw [← r.length]
  cases q : ixN ds.length i with
  | none => rw [q] at h; cases h
  | some j =>
    rw [q] at h
    obtain ⟨v, e, rv⟩ := r.get (show ds[j]? = some d from h)
    exact ⟨v, e, rv⟩
theorem ixd : IxD X M .sh gIx := by
  refine ⟨_, ix_seq, fun W G F ρ σ H x y dx dy d Q S bx b_y e p => ?_⟩
  unfold gIx at e
  split at e
  · obtain ⟨a, xs, rfl, ha, ra⟩ := brw_lst S.fh bx
    obtain ⟨v, ev, rv⟩ := ra.atI e
    exact .inl ⟨a, xs, _, v, rfl, brw_int b_y, .inl ha, ev, p.now S _ rv⟩
  · obtain ⟨a, xs, rfl, ha, ra⟩ := brw_tup bx
    obtain ⟨v, ev, rv⟩ := ra.atI e
    exact .inr (.inl ⟨a, xs, _, v, rfl, brw_int b_y, tupC_sq (sub_c S.fh ha), ev, p.now S _ rv⟩)
  · split at e
    · rename_i x i hz
      cases q : atI x.cps.toList i with
      | none => rw [q] at e; cases e
      | some c =>
        rw [q] at e; cases e
        exact .inr (.inr ⟨x, i, c, brw_str bx, brw_int b_y, hz, q, p.now S _ (.str _)⟩)
    · cases e
  · cases e
theorem px_ix {g : PyData → PyData → Option PyData} {a b : Expr} {fa fb : Den} (h : IxD X M k g) (ha : PX X W M .sh a fa) (hb : PX X W M .ow b fb) (hs : PlainIx b) : PX X W M k (.Subscript a b pos) (dOp g fa fb) := by
  obtain ⟨r, o, q⟩ := h
  obtain ⟨ta, pa, qa⟩ := ha
  obtain ⟨tb, pb, qb⟩ := hb
  exact ⟨_, pe_ix o pa pb hs, fun G F ρ σ H Q S w => op_run (f := binaryOp .Add) (a := a) (b := b) q qa qb S w⟩
theorem px_ixO {g : PyData → PyData → Option PyData} {i : Nat} {x : Str} {m : Md} {p : Pos} {b : Expr} {fb : Den} (h : IxD X M k g) (hi : X.N[i]? = some x) (hv : Vis X.env.scope x) (hm : M[i]? = some m) (hb : PX X W M .ow b fb) (hs : PlainIx b) (ho : m.own = true := by rfl)
    (hd : (x == ("__debug__" : Str)) = false := by decide) (hcd : (x == ("__classdict__" : Str)) = false := by decide) : PX X W M k (.Subscript (.Name x p) b pos) (dOpO g i fb) := by
  obtain ⟨r, o, q⟩ := h
  obtain ⟨tb, pb, qb⟩ := hb
  exact ⟨_, pe_ix o (pe_var hi hv hd hcd) pb hs, fun G F ρ σ H Q S w => own_run (f := binaryOp .Add) (b := b) q hm ho qb S w⟩
/-! ### slices -/
abbrev DenO := Env → Out (Option Int)
def dNo : DenO := fun ρ => .ok none ρ
def dSo (f : Den) : DenO := fun ρ => (f ρ).bind fun d ρ => match d with
  | .int i => .ok (some i) ρ
  | _ => .bad
def PXO (X : Cx) (W : WX) (M : List Md) (e : Option Expr) (f : DenO) : Prop :=
  ∃ t : TO, PO X e t ∧ ∀ G F ρ σ H Q, SR (kt X) M G F ρ σ H → Post X W M G F σ (f ρ) (fun o _ _ H' => Q o H') → t σ H Q
theorem pxo_no : PXO X W M none dNo := ⟨_, po_none, fun G F ρ σ H Q S p => p.now S⟩
theorem pxo_so {e : Expr} {f : Den} (h : PX X W M .ow e f) : PXO X W M (some e) (dSo f) := by
  obtain ⟨t, p, q⟩ := h
  refine ⟨_, po_some p, fun G F ρ σ H Q S w => q _ _ _ _ _ _ S ((Post.bind w).imp fun d ρ1 F1 H1 _ S1 w1 v r => ?_)⟩
  split at w1
  · exact ⟨_, brw_int r, w1.now S1⟩
  · exact w1.elim
def cutD (ds : List PyData) (lo hi : Option Int) : List PyData := (ds.drop (HT.sIx ds.length 0 lo)).take (HT.sIx ds.length ds.length hi - HT.sIx ds.length 0 lo)
def gSl : PyData → Option Int → Option Int → Option PyData
  | .list xs, lo, hi => some (.list (cutD xs lo hi))
  | .tuple xs, lo, hi => some (.tuple (cutD xs lo hi))
  | .str x, lo, hi => if x.length ≤ sizeLine then some (.str (cutS x lo hi)) else none
  | _, _, _ => none
def dSl (f : Den) (fl fh : DenO) : Den := fun ρ => (f ρ).bind fun a ρ => (fl ρ).bind fun l ρ => (fh ρ).bind fun h ρ => match gSl a l h with
  | some d => .ok d ρ
  | none => .bad
def dSlO (i : Nat) (fl fh : DenO) : Den := fun ρ => (dVar i ρ).bind fun _ ρ => (fl ρ).bind fun l ρ => (fh ρ).bind fun h ρ => (dVar i ρ).bind fun a ρ => match gSl a l h with
  | some d => .ok d ρ
  | none => .bad
theorem RepAll.cut {T : Kt} {H : Hp} {ds : List PyData} {vs : List V} (r : RepAll T H ds vs) (lo hi : Option Int) : RepAll T H (cutD ds lo hi) (cutV vs lo hi) := by
  unfold cutD cutV
  rw [r.length]
  exact (r.drop _).take _
theorem cut_whole {ds : List PyData} {lo hi : Option Int} (h : HT.sIx ds.length 0 lo = 0 ∧ HT.sIx ds.length ds.length hi = ds.length) : cutD ds lo hi = ds := by
  unfold cutD
  rw [h.1, h.2]
  simp
def rSl3 (K : PySem.W.Frag) : V → Option Int → Option Int → Hp → VK → Prop := fun x lo hi H Q => rSlL K x lo hi H Q ∨ (rSlC K x lo hi H Q ∨ rSlS x lo hi H Q)
theorem sl3 : SlR X (rSl3 X.K) := SlR.or sl_list (SlR.or sl_tupC sl_str)
theorem sl_run {G F H : Hp} {ρ : Env} {σ : St} {Q : VK} {x : V} {dx d : PyData} {lo hi : Option Int} (S : SR (kt X) M G F ρ σ H) (bx : Brw (kt X) H F dx x) (e : gSl dx lo hi = some d)
    (p : Post X W M G F σ (.ok d ρ) fun d ρ' F' H' => ∀ v, ResK .fr (kt X) M G F' H' ρ' σ v d → Q v H') : rSl3 X.K x lo hi H Q := by
  unfold gSl at e
  split at e
  · cases e
    obtain ⟨a, xs, rfl, ha, ra⟩ := brw_lst S.fh bx
    exact .inl ⟨a, xs, rfl, .inl ha, fun q hq => new_lst S (ra.cut _ _) p hq⟩
  · cases e
    obtain ⟨a, xs, rfl, ha, ra⟩ := brw_tup bx
    refine .inr (.inl ⟨a, xs, rfl, tupC_sq (sub_c S.fh ha), fun hw => ?_, fun _ q ob hq hb => new_tup S (ra.cut _ _) p hq hb⟩)
    rw [← ra.length] at hw
    rw [cut_whole hw] at p
    exact p.now S _ (ResK.sc (.tup ha ra) rfl)
  · split at e
    · rename_i hz
      cases e
      exact .inr (.inr ⟨_, brw_str bx, hz, p.now S _ (ResK.sc (.str _) rfl)⟩)
    · cases e
  · cases e
theorem px_sl {e : Expr} {lo hi : Option Expr} {p2 : Pos} {f : Den} {fl fh : DenO} (h : PX X W M .sh e f) (hl : PXO X W M lo fl) (hh : PXO X W M hi fh) : PX X W M .fr (.Subscript e (.Slice lo hi none p2) pos) (dSl f fl fh) := by
  obtain ⟨t, p, q⟩ := h
  obtain ⟨tl, pl, ql⟩ := hl
  obtain ⟨th, ph, qh⟩ := hh
  refine ⟨_, pe_slice sl3 p pl ph, fun G F ρ σ H Q S w => q _ _ _ _ _ _ S ((Post.bind w).imp fun a ρ1 F1 H1 _ S1 w1 v rv => ?_)⟩
  refine ql _ _ _ _ _ _ S1 ((Post.bind w1).imp fun l ρ2 F2 H2 s2 S2 w2 => ?_)
  refine qh _ _ _ _ _ _ S2 ((Post.bind w2).imp fun u ρ3 F3 H3 s3 S3 w3 => ?_)
  split at w3
  · rename_i d e
    exact sl_run S3 (.rep (Rep.mono (s2.tr s3) rv)) e w3
  · exact w3.elim
theorem px_slO {i : Nat} {x : Str} {m : Md} {p : Pos} {lo hi : Option Expr} {p2 : Pos} {fl fh : DenO} (hi' : X.N[i]? = some x) (hv : Vis X.env.scope x) (hm : M[i]? = some m) (hl : PXO X W M lo fl) (hh : PXO X W M hi fh) (ho : m.own = true := by rfl)
    (hd : (x == ("__debug__" : Str)) = false := by decide) (hcd : (x == ("__classdict__" : Str)) = false := by decide) : PX X W M .fr (.Subscript (.Name x p) (.Slice lo hi none p2) pos) (dSlO i fl fh) := by
  obtain ⟨tl, pl, ql⟩ := hl
  obtain ⟨th, ph, qh⟩ := hh
  refine ⟨_, pe_slice sl3 (pe_var hi' hv hd hcd) pl ph, fun G F ρ σ H Q S w => ?_⟩
  unfold dSlO dVar at w
  split at w
  · rename_i d0 h0
    obtain ⟨a, e, _, _, _⟩ := S.top hm ho h0
    refine ⟨_, e, ?_⟩
    have w : Post X W M G F σ ((fl ρ).bind _) _ := w
    refine ql _ _ _ _ _ _ S ((Post.bind w).imp fun l ρ2 F2 H2 s2 S2 w2 => ?_)
    refine qh _ _ _ _ _ _ S2 ((Post.bind w2).imp fun u ρ3 F3 H3 s3 S3 w3 => ?_)
    split at w3
    · rename_i d2 h2
      obtain ⟨a', e', _, _, t'⟩ := S3.top hm ho h2
      rw [e] at e'; cases e'
      simp only [Out.bind_ok] at w3
      split at w3
      · rename_i d e
        exact sl_run S3 (.top t') e w3
      · exact w3.elim
    · exact w3.elim
  · exact w.elim
end

/-! ## statements -/
def Keep (M : List Md) (σ σ' : St) : Prop := σ'.length = σ.length ∧ ∀ i : Nat, M[i]? = some Md.pm → σ'[i]? = σ[i]?
theorem Keep.rfl' {M : List Md} {σ : St} : Keep M σ σ := ⟨rfl, fun _ _ => rfl⟩
theorem Keep.tr {M : List Md} {σ σ' σ'' : St} (a : Keep M σ σ') (b : Keep M σ' σ'') : Keep M σ σ'' := ⟨b.1.trans a.1, fun i h => (b.2 i h).trans (a.2 i h)⟩
theorem Keep.set {M : List Md} {σ : St} {i : Nat} {x : Option V} {m : Md} (h : M[i]? = some m) (hm : m ≠ .pm) : Keep M σ (σ.set i x) := ⟨List.length_set, fun j hj => by
  rw [List.getElem?_set_ne]
  rintro rfl
  rw [h] at hj; cases hj; exact hm rfl⟩
def PostS (X : Cx) (W : WX) (M : List Md) (k : Kd) (G F : Hp) (σ : St) (o : Out Fl) (D : Ends) : Prop := match o with
  | .ok .nx ρ' => ∀ F' H' σ', Sub F F' → SR (kt X) M G F' ρ' σ' H' → Keep M σ σ' → D.nx σ' H'
  | .ok (.rt d) ρ' => ∀ F' H' σ' v, Sub F F' → SR (kt X) M G F' ρ' σ' H' → Keep M σ σ' → ResK k (kt X) M G F' H' ρ' σ' v d → D.rt v H'
  | .ok .bk ρ' => ∀ F' H' σ', Sub F F' → SR (kt X) M G F' ρ' σ' H' → Keep M σ σ' → D.bk σ' H'
  | .ok .ct ρ' => ∀ F' H' σ', Sub F F' → SR (kt X) M G F' ρ' σ' H' → Keep M σ σ' → D.ct σ' H'
  | .exc e ρ' => ∀ F' H' σ' c, Sub F F' → SR (kt X) M G F' ρ' σ' H' → Keep M σ σ' → ClsOf X e c → W c none σ' H'
  | .bad => False
def PSX (X : Cx) (W : WX) (M : List Md) (k : Kd) (st : Stmt) (f : DenS) : Prop :=
  ∃ t : TS, PS X st t ∧ ∀ G F ρ σ H D, SR (kt X) M G F ρ σ H → PostS X W M k G F σ (f ρ) D → t D σ H
def PSsX (X : Cx) (W : WX) (M : List Md) (k : Kd) (st : List Stmt) (f : DenS) : Prop :=
  ∃ t : TS, PSs X st t ∧ ∀ G F ρ σ H D, SR (kt X) M G F ρ σ H → PostS X W M k G F σ (f ρ) D → t D σ H
section
variable {X : Cx} {W : WX} {M : List Md} {k : Kd} {pos : Pos}
theorem PostS.up {G F F' : Hp} {σ σ' : St} {o : Out Fl} {D : Ends} (h : PostS X W M k G F σ o D) (s : Sub F F') (kp : Keep M σ σ') : PostS X W M k G F' σ' o D := by
  cases o with
  | ok a ρ' =>
    cases a with
    | nx => exact fun F2 H2 σ2 s2 S2 k2 => h F2 H2 σ2 (s.tr s2) S2 (kp.tr k2)
    | rt d => exact fun F2 H2 σ2 v s2 S2 k2 => h F2 H2 σ2 v (s.tr s2) S2 (kp.tr k2)
    | bk => exact fun F2 H2 σ2 s2 S2 k2 => h F2 H2 σ2 (s.tr s2) S2 (kp.tr k2)
    | ct => exact fun F2 H2 σ2 s2 S2 k2 => h F2 H2 σ2 (s.tr s2) S2 (kp.tr k2)
  | exc e ρ' => exact fun F2 H2 σ2 c s2 S2 k2 => h F2 H2 σ2 c (s.tr s2) S2 (kp.tr k2)
  | bad => exact h
/-- an expression ahead of a statement's end -/
theorem PostS.bind {α : Type} {G F : Hp} {σ : St} {o : Out α} {g : α → Env → Out Fl} {D : Ends} (h : PostS X W M k G F σ (o.bind g) D) : Post X W M G F σ o fun a ρ1 F1 _ => PostS X W M k G F1 σ (g a ρ1) D := by
  cases o with
  | bad => exact h
  | exc e ρ' => exact fun F' H' c s S hc => h F' H' σ c s S Keep.rfl' hc
  | ok a ρ1 => exact fun F1 H1 s1 S1 => PostS.up (show PostS X W M k G F σ (g a ρ1) D from h) s1 Keep.rfl'
def dSkip : DenS := fun ρ => .ok .nx ρ
def dSeq (f g : DenS) : DenS := fun ρ => (f ρ).bind fun fl ρ => match fl with
  | .nx => g ρ
  | .rt d => .ok (.rt d) ρ
  | .bk => .ok .bk ρ
  | .ct => .ok .ct ρ
theorem pssx_nil : PSsX X W M k [] dSkip := ⟨_, pss_nil, fun G F ρ σ H D S p => p F H σ Sub.rfl' S Keep.rfl'⟩
theorem pssx_cons {st : Stmt} {rest : List Stmt} {f g : DenS} (h : PSX X W M k st f) (hr : PSsX X W M k rest g) : PSsX X W M k (st :: rest) (dSeq f g) := by
  obtain ⟨t, p, q⟩ := h
  obtain ⟨u, p', q'⟩ := hr
  refine ⟨_, pss_cons p p', fun G F ρ σ H D S w => q _ _ _ _ _ _ S ?_⟩
  unfold dSeq at w
  cases o : f ρ with
  | bad => rw [o] at w; exact w
  | exc e ρ' => rw [o] at w; exact w
  | ok a ρ1 =>
    rw [o] at w
    cases a with
    | nx => exact fun F1 H1 σ1 s1 S1 k1 => q' _ _ _ _ _ _ S1 (PostS.up w s1 k1)
    | rt d => exact w
    | bk => exact w
    | ct => exact w
theorem pssx_one {st : Stmt} {f : DenS} (h : PSX X W M k st f) : PSsX X W M k [st] f := let ⟨t, p, q⟩ := h; ⟨t, pss_one p, q⟩
theorem psx_pass : PSX X W M k (.Pass pos) dSkip := ⟨_, ps_pass, fun G F ρ σ H D S p => p F H σ Sub.rfl' S Keep.rfl'⟩
def dBk : DenS := fun ρ => .ok .bk ρ
def dCt : DenS := fun ρ => .ok .ct ρ
theorem psx_break : PSX X W M k (.Break pos) dBk := ⟨_, ps_break, fun G F ρ σ H D S p => p F H σ Sub.rfl' S Keep.rfl'⟩
theorem psx_cont : PSX X W M k (.Continue pos) dCt := ⟨_, ps_continue, fun G F ρ σ H D S p => p F H σ Sub.rfl' S Keep.rfl'⟩
def dDrop (f : Den) : DenS := fun ρ => (f ρ).bind fun _ ρ => .ok .nx ρ
theorem psx_expr {e : Expr} {f : Den} (h : PX X W M .ow e f) (hs : swapsWith e none pos.line X.env = pure false := by rfl) : PSX X W M k (.Expr e pos) (dDrop f) := by
  obtain ⟨t, p, q⟩ := h
  exact ⟨_, ps_expr p hs, fun G F ρ σ H D S w => q _ _ _ _ _ _ S ((PostS.bind w).imp fun d ρ1 F1 H1 _ S1 w1 v r => w1 F1 H1 σ Sub.rfl' S1 Keep.rfl')⟩
def dRet (f : Den) : DenS := fun ρ => (f ρ).bind fun d ρ => .ok (.rt d) ρ
theorem psx_ret {e : Expr} {f : Den} (h : PX X W M k e f) : PSX X W M k (.Return (some e) pos) (dRet f) := by
  obtain ⟨t, p, q⟩ := h
  exact ⟨_, ps_ret p, fun G F ρ σ H D S w => q _ _ _ _ _ _ S ((PostS.bind w).imp fun d ρ1 F1 H1 _ S1 w1 v r => w1 F1 H1 σ v Sub.rfl' S1 Keep.rfl' r)⟩
def dRetN : DenS := fun ρ => .ok (.rt .none) ρ
theorem psx_retN : PSX X W M k (.Return none pos) dRetN := ⟨_, ps_retN, fun G F ρ σ H D S w => w F H σ _ Sub.rfl' S Keep.rfl' (ResK.sc .non rfl)⟩
def dIfS (c : DenB) (f g : DenS) : DenS := fun ρ => (c ρ).bind fun b ρ => if b = true then f ρ else g ρ
theorem psx_if {c : Expr} {a b : List Stmt} {fc : DenB} {f g : DenS} (hc : PXT X W M c fc) (ha : PSsX X W M k a f) (hb : PSsX X W M k b g) : PSX X W M k (.If c a b pos) (dIfS fc f g) := by
  obtain ⟨tc, pc, qc⟩ := hc
  obtain ⟨t, p, q⟩ := ha
  obtain ⟨u, p', q'⟩ := hb
  refine ⟨_, ps_if pc p p', fun G F ρ σ H D S w => qc _ _ _ _ _ _ S ((PostS.bind w).imp fun b ρ1 F1 H1 _ S1 w1 => ?_)⟩
  cases b with
  | true => exact q _ _ _ _ _ _ S1 w1
  | false => exact q' _ _ _ _ _ _ S1 w1
/-- code that is never come to -/
def dNever {α : Type} : Env → Out α := fun _ => .bad
theorem psx_never {st : Stmt} : PSX X W M k st dNever := ⟨_, ps_never, fun _ _ _ _ _ _ _ h => h⟩

/-! ### slots stored -/
theorem SR.put {T : Kt} {G F H : Hp} {ρ : Env} {σ : St} {i : Nat} {d : PyData} {v : V} (S : SR T M G F ρ σ H) (hm : M[i]? = some .sh) (r : Rep T F d v) : SR T M G F (ρ.set i (some d)) (σ.set i (some v)) H := by
  refine ⟨S.gh, S.fh, by rw [List.length_set]; exact S.lm, by rw [List.length_set, List.length_set]; exact S.ls, fun j e m hj hmj => ?_, fun j l a oj ol => ?_, S.dj⟩
  · by_cases q : i = j
    · subst q
      rw [hm] at hmj; cases hmj
      have hl : i < ρ.length := by
        have := (List.getElem?_eq_some_iff.mp hj).1
        simpa using this
      rw [List.getElem?_set_self hl] at hj; cases hj
      exact ⟨v, by rw [List.getElem?_set_self (Nat.lt_of_lt_of_le hl S.ls)], r⟩
    · rw [List.getElem?_set_ne q] at hj ⊢
      exact S.sl j e m hj hmj
  · have back : ∀ n, OwnAt M (ρ.set i (some d)) (σ.set i (some v)) n a → OwnAt M ρ σ n a := by
      rintro n ⟨m, e, h1, h2, h3, h4⟩
      have q : i ≠ n := by rintro rfl; rw [hm] at h1; cases h1; cases h2
      rw [List.getElem?_set_ne q] at h3 h4
      exact ⟨m, e, h1, h2, h3, h4⟩
    exact S.ap j l a (back j oj) (back l ol)
theorem SR.putO {T : Kt} {G F H : Hp} {ρ : Env} {σ : St} {i : Nat} {d : PyData} {a : Addr} (S : SR T M G F ρ σ H) (hm : M[i]? = some .ow) (hG : G a = none) (hF : F a = none) (t : Top T H F a d) (hn : ∀ j, ¬ OwnAt M ρ σ j a) : SR T M G F (ρ.set i (some d)) (σ.set i (some (.ref a))) H := by
  refine ⟨S.gh, S.fh, by rw [List.length_set]; exact S.lm, by rw [List.length_set, List.length_set]; exact S.ls, fun j e m hj hmj => ?_, fun j l b oj ol => ?_, S.dj⟩
  · by_cases q : i = j
    · subst q
      rw [hm] at hmj; cases hmj
      have hl : i < ρ.length := by
        have := (List.getElem?_eq_some_iff.mp hj).1
        simpa using this
      rw [List.getElem?_set_self hl] at hj; cases hj
      exact ⟨a, by rw [List.getElem?_set_self (Nat.lt_of_lt_of_le hl S.ls)], hG, hF, t⟩
    · rw [List.getElem?_set_ne q] at hj ⊢
      exact S.sl j e m hj hmj
  · have split : ∀ n, OwnAt M (ρ.set i (some d)) (σ.set i (some (.ref a))) n b → (n = i ∧ b = a) ∨ (n ≠ i ∧ OwnAt M ρ σ n b) := by
      rintro n ⟨m, e, h1, h2, h3, h4⟩
      by_cases q : i = n
      · subst q
        have hl : i < ρ.length := by
          have := (List.getElem?_eq_some_iff.mp h3).1
          simpa using this
        rw [List.getElem?_set_self (Nat.lt_of_lt_of_le hl S.ls)] at h4
        cases h4
        exact .inl ⟨rfl, rfl⟩
      · rw [List.getElem?_set_ne q] at h3 h4
        exact .inr ⟨fun e => q e.symm, m, e, h1, h2, h3, h4⟩
    rcases split j oj with ⟨rfl, rfl⟩ | ⟨nj, oj'⟩
    · rcases split l ol with ⟨rfl, _⟩ | ⟨nl, ol'⟩
      · rfl
      · exact (hn l ol').elim
    · rcases split l ol with ⟨rfl, rfl⟩ | ⟨nl, ol'⟩
      · exact (hn j oj').elim
      · exact S.ap j l b oj' ol'
/-- an own one's content is changed -/
theorem SR.write {T : Kt} {G F H : Hp} {ρ : Env} {σ : St} {i : Nat} {m : Md} {d d0 : PyData} {a : Addr} {o : HO} (S : SR T M G F ρ σ H) (hm : M[i]? = some m) (ho : m.own = true) (hd : ρ[i]? = some (some d0)) (hs : σ[i]? = some (some (.ref a))) (t : Top T (upd H a o) F a d) :
    SR T M G F (ρ.set i (some d)) σ (upd H a o) := by
  have oi : OwnAt M ρ σ i a := ⟨m, d0, hm, ho, hd, hs⟩
  obtain ⟨hG, hF, _⟩ := S.own oi
  refine ⟨S.gh.wr hG, S.fh.wr hF, by rw [List.length_set]; exact S.lm, by rw [List.length_set]; exact S.ls, fun j e mj hj hmj => ?_, fun j l b oj ol => ?_, S.dj⟩
  · by_cases q : i = j
    · subst q
      rw [hm] at hmj; cases hmj
      have hl : i < ρ.length := (List.getElem?_eq_some_iff.mp hd).1
      rw [List.getElem?_set_self hl] at hj; cases hj
      cases m with
      | sh => cases ho
      | fz => cases ho
      | ow => exact ⟨a, hs, hG, hF, t⟩
      | pm => exact ⟨a, hs, hG, hF, t⟩
    · rw [List.getElem?_set_ne q] at hj
      have z := S.sl j e mj hj hmj
      cases mj with
      | sh => exact z
      | fz => exact z
      | ow =>
        obtain ⟨b, e1, g, f, tb⟩ := z
        have hne : b ≠ a := fun h => q (S.ap i j a oi (h ▸ ⟨.ow, e, hmj, rfl, hj, e1⟩))
        exact ⟨b, e1, g, f, tb.mono (upd_ne hne) Sub.rfl'⟩
      | pm =>
        obtain ⟨b, e1, g, f, tb⟩ := z
        have hne : b ≠ a := fun h => q (S.ap i j a oi (h ▸ ⟨.pm, e, hmj, rfl, hj, e1⟩))
        exact ⟨b, e1, g, f, tb.mono (upd_ne hne) Sub.rfl'⟩
  · have back : ∀ n, OwnAt M (ρ.set i (some d)) σ n b → OwnAt M ρ σ n b := by
      rintro n ⟨mn, e, h1, h2, h3, h4⟩
      by_cases q : i = n
      · subst q; exact ⟨mn, d0, h1, h2, hd, h4⟩
      · rw [List.getElem?_set_ne q] at h3
        exact ⟨mn, e, h1, h2, h3, h4⟩
    exact S.ap j l b (back j oj) (back l ol)
def dSet (i : Nat) (f : Den) : DenS := fun ρ => (f ρ).bind fun d ρ => .ok .nx (ρ.set i (some d))
def dSetO (i : Nat) (f : Den) : DenS := fun ρ => (f ρ).bind fun d ρ => if isMut d = true then .ok .nx (ρ.set i (some d)) else .bad
theorem psx_set {i : Nat} {x : Str} {e : Expr} {f : Den} {pos' : Pos} (hN : X.N.Nodup) (hi : X.N[i]? = some x) (hx : Loc X.env.scope x) (hm : M[i]? = some .sh) (h : PX X W M .sh e f) (hf : X.fn x = true ∨ X.env.scope.names.lookup x = some .local)
    (hs : swapsWith e (some (.Name x pos')) pos.line X.env = pure false := by rfl) : PSX X W M k (.Assign [.Name x pos'] e pos) (dSet i f) := by
  obtain ⟨t, p, q⟩ := h
  exact ⟨_, ps_set hN hi hx p hs hf, fun G F ρ σ H D S w => q _ _ _ _ _ _ S ((PostS.bind w).imp fun d ρ1 F1 H1 _ S1 w1 v r => w1 F1 H1 _ Sub.rfl' (S1.put hm r) (Keep.set hm (by decide)))⟩
theorem own_end {i : Nat} {G F1 H1 : Hp} {ρ1 : Env} {σ : St} {d : PyData} {v : V} {D : Ends} (hm : M[i]? = some .ow) (S1 : SR (kt X) M G F1 ρ1 σ H1) (r : ResK .fr (kt X) M G F1 H1 ρ1 σ v d)
    (w1 : PostS X W M k G F1 σ (if isMut d = true then .ok .nx (ρ1.set i (some d)) else .bad) D) : D.nx (σ.set i (some v)) H1 := by
  split at w1
  · rename_i hd
    obtain ⟨a, rfl, g, f, t, n⟩ := r.2 hd
    exact w1 F1 H1 _ Sub.rfl' (S1.putO hm g f t n) (Keep.set hm (by decide))
  · exact w1.elim
theorem psx_setO {i : Nat} {x : Str} {e : Expr} {f : Den} {pos' : Pos} (hN : X.N.Nodup) (hi : X.N[i]? = some x) (hx : Loc X.env.scope x) (hm : M[i]? = some .ow) (h : PX X W M .fr e f) (hf : X.fn x = true ∨ X.env.scope.names.lookup x = some .local)
    (hs : swapsWith e (some (.Name x pos')) pos.line X.env = pure false := by rfl) : PSX X W M k (.Assign [.Name x pos'] e pos) (dSetO i f) := by
  obtain ⟨t, p, q⟩ := h
  exact ⟨_, ps_set hN hi hx p hs hf, fun G F ρ σ H D S w => q _ _ _ _ _ _ S ((PostS.bind w).imp fun d ρ1 F1 H1 _ S1 w1 v r => own_end hm S1 r w1)⟩

/-! ### targets -/
/-- a target that stores slots of vs alone -/
def PGX (b : Bool) (X : Cx) (M : List Md) (tg : Expr) (vs : List Nat) (g : PyData → Env → Option Env) : Prop :=
  ∃ t : TG, PG X tg t ∧ ∀ G F ρ σ H v d ρ' Q, SR (kt X) M G F ρ σ H → RepB b (kt X) F d v → g d ρ = some ρ' →
    (∀ σ', SR (kt X) M G F ρ' σ' H → Keep M σ σ' → (∀ i, i ∉ vs → σ'[i]? = σ[i]?) → Q σ' H) → t v σ H Q
def PGsX (X : Cx) (M : List Md) (ts : List Expr) (vs : List Nat) (g : List PyData → Env → Option Env) : Prop :=
  ∃ t : TGs, PGs X ts t ∧ ∀ G F ρ σ H us ds ρ' Q, SR (kt X) M G F ρ σ H → RepAll (kt X) F ds us → g ds ρ = some ρ' →
    (∀ σ', SR (kt X) M G F ρ' σ' H → Keep M σ σ' → (∀ i, i ∉ vs → σ'[i]? = σ[i]?) → Q σ' H) → t us σ H Q
def tName (i : Nat) : PyData → Env → Option Env := fun d ρ => some (ρ.set i (some d))
def tsNil : List PyData → Env → Option Env
  | [], ρ => some ρ
  | _, _ => none
def tsCons (g : PyData → Env → Option Env) (r : List PyData → Env → Option Env) : List PyData → Env → Option Env
  | d :: ds, ρ => (g d ρ).bind (r ds)
  | [], _ => none
def tTupl (g : List PyData → Env → Option Env) : PyData → Env → Option Env
  | .tuple ds, ρ => g ds ρ
  | _, _ => none
theorem pgx_name {i : Nat} {x : Str} (hN : X.N.Nodup) (hi : X.N[i]? = some x) (hx : Loc X.env.scope x) (hm : M[i]? = some .sh) (hf : X.fn x = true ∨ X.env.scope.names.lookup x = some .local) : PGX true X M (.Name x pos) [i] (tName i) := by
  refine ⟨_, pg_name hN hi hx hf, fun G F ρ σ H v d ρ' Q S r e w => ?_⟩
  cases e
  exact w _ (S.put hm r.full) (Keep.set hm (by decide)) fun j hj => List.getElem?_set_ne fun e => hj (by rw [e]; exact List.mem_cons_self)
theorem pgsx_nil : PGsX X M [] [] tsNil := by
  refine ⟨_, pgs_nil, fun G F ρ σ H us ds ρ' Q S r e w => ?_⟩
  cases ds with
  | nil => cases e; cases r; exact ⟨rfl, w σ S Keep.rfl' fun _ _ => rfl⟩
  | cons d ds => cases e
theorem pgsx_cons {e : Expr} {es : List Expr} {vs ws : List Nat} {g : PyData → Env → Option Env} {r : List PyData → Env → Option Env} (h : PGX true X M e vs g) (hr : PGsX X M es ws r) (hs : (assignEach (e :: es) X.env).map (·.2) = assign e X.env :: (assignEach es X.env).map (·.2) := by rfl) : PGsX X M (e :: es) (vs ++ ws) (tsCons g r) := by
  obtain ⟨t, p, q⟩ := h
  obtain ⟨u, p', q'⟩ := hr
  refine ⟨_, pgs_cons p p' hs, fun G F ρ σ H us ds ρ' Q S rr e w => ?_⟩
  cases rr with
  | nil => cases e
  | cons r1 r2 =>
    rename_i v us d ds
    unfold tsCons at e
    cases e1 : g d ρ with
    | none => simp only [e1] at e; cases e
    | some ρ1 =>
      simp only [e1] at e
      refine ⟨v, us, rfl, q _ _ _ _ _ _ _ _ _ S r1.b e1 fun σ1 S1 k1 o1 => q' _ _ _ _ _ _ _ _ _ S1 r2 e fun σ2 S2 k2 o2 => w σ2 S2 (k1.tr k2) fun i hi => ?_⟩
      rw [o2 i fun z => hi (List.mem_append_right _ z), o1 i fun z => hi (List.mem_append_left _ z)]
theorem ts_len {n : Nat} : ∀ {gs : List (PyData → Env → Option Env)}, True := fun {_} => trivial
/-- (a, b, ..) = a tuple of n -/
theorem pgx_tup {b : Bool} {es : List Expr} {vs : List Nat} {kk : Nat} {g : List PyData → Env → Option Env} {n : Nat} (hc : X.calm = true) (h : PGsX X M es vs g) (hl : ∀ ds ρ ρ', g ds ρ = some ρ' → ds.length = n) (hn : (assignEach es X.env).length = n := by rfl) (hst : (assignEach es X.env).findIdx? (·.1) = none := by rfl) : PGX b X M (.Tuple es kk pos) vs (tTupl g) := by
  obtain ⟨t, p, q⟩ := h
  refine ⟨_, pg_tup hc p hn hst, fun G F ρ σ H v d ρ' Q S r e w => ?_⟩
  cases d with
  | tuple ds =>
    have e : g ds ρ = some ρ' := e
    obtain ⟨a, xs, rfl, ht, ra⟩ := r.tup
    exact ⟨_, _, rfl, sub_t S.fh ht, by rw [← ra.length]; exact hl _ _ _ e, q _ _ _ _ _ _ _ _ _ S ra e w⟩
  | _ => cases e
theorem tl_nil : ∀ ds ρ ρ', tsNil ds ρ = some ρ' → ds.length = 0 := fun ds ρ ρ' h => by cases ds with | nil => rfl | cons _ _ => cases h
theorem tl_cons {g : PyData → Env → Option Env} {r : List PyData → Env → Option Env} {n : Nat} (hr : ∀ ds ρ ρ', r ds ρ = some ρ' → ds.length = n) : ∀ ds ρ ρ', tsCons g r ds ρ = some ρ' → ds.length = n + 1 := fun ds ρ ρ' h => by
  cases ds with
  | nil => cases h
  | cons d ds =>
    unfold tsCons at h
    cases e : g d ρ with
    | none => simp only [e] at h; cases h
    | some ρ1 => simp only [e] at h; rw [List.length_cons, hr ds ρ1 ρ' h]
def dAsg (f : Den) (g : PyData → Env → Option Env) : DenS := fun ρ => (f ρ).bind fun d ρ => match g d ρ with
  | some ρ' => .ok .nx ρ'
  | none => .bad
theorem psx_asg {tg e : Expr} {f : Den} {vs : List Nat} {g : PyData → Env → Option Env} (h : PX X W M .sh e f) (hg : PGX true X M tg vs g) (hs : swapsWithSole [tg] e pos.line X.env = pure false := by rfl) (hw : swappedStores [tg] e X.env = pure none := by rfl)
    (h1 : (assignEach [tg] X.env).map (·.2) = [assign tg X.env] := by rfl) : PSX X W M k (.Assign [tg] e pos) (dAsg f g) := by
  obtain ⟨t, p, q⟩ := h
  obtain ⟨u, p', q'⟩ := hg
  refine ⟨_, ps_asg p p' hs hw h1, fun G F ρ σ H D S w => q _ _ _ _ _ _ S ((PostS.bind w).imp fun d ρ1 F1 H1 _ S1 w1 v r => ?_)⟩
  split at w1
  · rename_i ρ' e'
    exact q' _ _ _ _ _ _ _ _ _ S1 r.b e' fun σ' S' k' _ => w1 F1 H1 σ' Sub.rfl' S' k'
  · exact w1.elim

/-! ### lists of one's own, changed -/
/-- an own slot that holds a list -/
def isL : Option (Option PyData) → Bool
  | some (some (.list _)) => true
  | _ => false
theorem top_lst {T : Kt} {H F : Hp} {a : Addr} {ds : List PyData} (t : Top T H F a (.list ds)) : ∃ xs, H a = some (.lst xs) ∧ RepAll T F ds xs := by
  cases t with | lst h r => exact ⟨_, h, r⟩
/-- xs.append(e) -/
def dApp (i : Nat) (f : Den) : DenS := fun ρ => if isL ρ[i]? = true then (f ρ).bind fun d ρ => match ρ[i]? with
  | some (some (.list xs)) => if xs.length < sizeLine then .ok .nx (ρ.set i (some (.list (xs ++ [d])))) else .bad
  | _ => .bad
  else .bad
theorem isL_get {o : Option (Option PyData)} (h : isL o = true) : ∃ ds, o = some (some (.list ds)) := by
  unfold isL at h
  split at h
  · exact ⟨_, rfl⟩
  · cases h
/-- a method of a list of one's own, with one argument -/
theorem meth_run {i : Nat} {m : Md} {t : TE} {r : V → List V → Hp → VK → Prop} {f : Den} {G F H : Hp} {ρ : Env} {σ : St} {D : Ends} {g : PyData → Env → Out Fl} (hm : M[i]? = some m) (ho : m.own = true) {kk : Kd}
    (q : ∀ G F ρ σ H Q, SR (kt X) M G F ρ σ H → Post X W M G F σ (f ρ) (fun d ρ' F' H' => ∀ v, ResK kk (kt X) M G F' H' ρ' σ v d → Q v H') → t σ H Q) (S : SR (kt X) M G F ρ σ H)
    (w : PostS X W M k G F σ (if isL ρ[i]? = true then (f ρ).bind g else .bad) D)
    (go : ∀ F1 H1 ρ1 v d a, SR (kt X) M G F1 ρ1 σ H1 → ResK kk (kt X) M G F1 H1 ρ1 σ v d → σ[i]? = some (some (.ref a)) → PostS X W M k G F1 σ (g d ρ1) D → r (.ref a) [v] H1 fun _ H2 => D.nx σ H2) :
    tDrop (tBM X.K "list" r (tVar i) (tCons t tNil)) D σ H := by
  split at w
  · rename_i hl
    obtain ⟨ds, h0⟩ := isL_get hl
    obtain ⟨a, e1, _, _, t0⟩ := S.top hm ho h0
    obtain ⟨xs, h1, _⟩ := top_lst t0
    refine ⟨_, e1, .inl ⟨rfl, _, .inl (.inl h1)⟩, ?_⟩
    exact q _ _ _ _ _ _ S ((PostS.bind w).imp fun d ρ1 F1 H1 _ S1 w1 v rv => go F1 H1 ρ1 v d a S1 rv e1 w1)
  · exact w.elim
theorem psx_app {i : Nat} {x : Str} {m : Md} {e : Expr} {f : Den} {p1 p2 p3 : Pos} (hi : X.N[i]? = some x) (hv : Vis X.env.scope x) (hm : M[i]? = some m) (h : PX X W M .sh e f) (ho : m.own = true := by rfl) (hd : (x == ("__debug__" : Str)) = false := by decide) (hcd : (x == ("__classdict__" : Str)) = false := by decide)
    (hst : starEach [e] X.env = (false, eval e X.env) :: starEach [] X.env := by rfl) (hbase : attributeBase (.Name x p1) "append" X.env (eval (.Name x p1) X.env) = eval (.Name x p1) X.env := by rfl)
    (hfew : ((backTo p3 (starEach [e] X.env)).all (fun x => !x.1) && (backToKw p3 (keywordEach [] X.env)).all (fun x => x.1.isSome) && decide ([e].length + ([] : List Keyword).length + (if ([] : List Keyword).isEmpty then 0 else 1) < 30)) = true := by rfl)
    (hline : (p2.endLine == p3.line) = true := by rfl) (hplain : (backTo p3 (starEach [] X.env)).any (·.1) = false := by rfl)
    (hs : swapsWith (.Call (.Attribute (.Name x p1) "append" p2) [e] [] p3) none pos.line X.env = pure false := by rfl) : PSX X W M k (.Expr (.Call (.Attribute (.Name x p1) "append" p2) [e] [] p3) pos) (dApp i f) := by
  obtain ⟨t, p, q⟩ := h
  refine ⟨_, ps_expr (pe_bm PySem.F.plainAttrs_list PySem.F.slot_list_append PySem.F.type_list_append mt_append (pe_var hi hv hd hcd) (pa_cons p pa_nil hst) hbase hfew hline hst hplain) hs, fun G F ρ σ H D S w => ?_⟩
  refine meth_run (kk := .sh) hm ho q S w fun F1 H1 ρ1 v d a S1 r e1 w1 => ?_
  split at w1
  · rename_i xs hx
    split at w1
    · rename_i hz
      obtain ⟨a', e2, _, _, t1⟩ := S1.top hm ho hx
      rw [e1] at e2; cases e2
      obtain ⟨ys, h1, r1⟩ := top_lst t1
      refine ⟨a, _, v, rfl, rfl, h1, by rw [← r1.length]; exact hz, ?_⟩
      exact w1 F1 _ σ Sub.rfl' (S1.write hm ho hx e1 (.lst upd_same (r1.append (.cons r .nil)))) Keep.rfl'
    · exact w1.elim
  · exact w1.elim
/-- xs.extend(e), e a list or a tuple -/
def dExt (i : Nat) (f : Den) : DenS := fun ρ => if isL ρ[i]? = true then (f ρ).bind fun d ρ => match ρ[i]?, d with
  | some (some (.list xs)), .list ys => if xs.length + ys.length ≤ sizeLine then .ok .nx (ρ.set i (some (.list (xs ++ ys)))) else .bad
  | some (some (.list xs)), .tuple ys => if xs.length + ys.length ≤ sizeLine then .ok .nx (ρ.set i (some (.list (xs ++ ys)))) else .bad
  | _, _ => .bad
  else .bad
/-- list.extend(tuple) -/
def rExtendT (K : PySem.W.Frag) : V → List V → Hp → VK → Prop := fun x vs H Q => ∃ l b xs zs, x = .ref l ∧ vs = [.ref b] ∧ H l = some (.lst xs) ∧ SqT K H b zs ∧ xs.length + zs.length ≤ sizeLine ∧ Q .non (upd H l (.lst (xs ++ zs)))
theorem ext_tup (l : Addr) (items : Array Value) (n : Nat) (b : Addr) (items2 : Array Value) (n2 : Nat) (dd : Option Addr) (sl : Array (Option Value)) (hs0 : ¬(!items.isEmpty && Builtin.List.listTooLong (items.size + items2.size)) = true) (hs1 : items.size ≤ sizeLine) (hs2 : items.size + items2.size ≤ sizeLine + 1) :
    Meets (Builtin.«list.extend» ⟨[.ref l, .ref b], []⟩) (fun _ R s => s.heap.get? l = some { cls := .type "list", dict := none, data := .seq items n, slots := #[] } ∧ s.heap.get? b = some { cls := .type "tuple", dict := dd, data := .seq items2 n2, slots := sl } ∧ R (.ok (.ret Value.none)) { s with heap := s.heap.update l (Obj.mapSeq fun x => x ++ items2), toks := s.toks }) :=
  .of_wp fun prog w A R s h => by
    obtain ⟨hp, g, d, tk, os⟩ := s; obtain ⟨hl, hb, h⟩ := h; have f1 := AutoSeq1.idx_int; have f2 := AutoSeq1.sub_tuple_tuple; have f3 := AutoSeq1.sub_list_list; have f4 := AutoSeq1.sub_tuple_list; have f5 := AutoSeq1.sub_list_tuple;
    have hz' : (items ++ items2).size ≤ sizeLine + 1 := by rw [Array.size_append]; exact hs2
    wp_walk using (wpAny_updateSeq hl rfl (hz := hs1) (_hz' := hz')), wpAny_loadPart' hl, wpAny_loadPart' hb; exact ⟨_, rfl, h⟩
end
end PD

set_option Elab.async false
set_option linter.all false
set_option maxRecDepth 100000
set_option maxHeartbeats 2000000
set_option autoImplicit false
namespace PD
open PySem L2

/-! ### what is known of the place where one stands -/
def visB (sc : Scope) (x : Str) : Bool := match sc.names.lookup x with
  | some .local => true
  | some .cell => true
  | some .free => true
  | _ => false
def storeB (sc : Scope) (fn : Str → Bool) (x : Str) : Bool := match sc.names.lookup x with
  | some .local => true
  | some .cell => fn x
  | _ => false
def glB (sc : Scope) (x : Str) : Bool := match sc.names.lookup x with
  | some .globalImplicit => true
  | _ => false
structure CF (X : Cx) (N : List Str) (sc : Scope) (fn : Str → Bool) : Prop where
  hN : X.N = N
  hs : X.env.scope = sc
  hf : X.fn = fn
  nd : N.Nodup
  calm : X.calm = true
  gd : X.A.guards = some []
  un : X.A.units + 200 < cLine
section
variable {X : Cx} {N : List Str} {sc : Scope} {fn : Str → Bool}
theorem CF.hi (c : CF X N sc fn) {i : Nat} {x : Str} (h : N[i]? = some x) : X.N[i]? = some x := by rw [c.hN]; exact h
theorem CF.ndX (c : CF X N sc fn) : X.N.Nodup := by rw [c.hN]; exact c.nd
theorem CF.hv (c : CF X N sc fn) {x : Str} (h : visB sc x = true) : Vis X.env.scope x := by
  rw [c.hs]
  unfold visB at h
  unfold Vis
  split at h
  · rename_i e; exact .inl e
  · rename_i e; exact .inr (.inl e)
  · rename_i e; exact .inr (.inr e)
  · cases h
theorem CF.loc (c : CF X N sc fn) {x : Str} (h : storeB sc fn x = true) : Loc X.env.scope x := by
  rw [c.hs]
  unfold storeB at h
  split at h
  · rename_i e; exact .inl e
  · rename_i e; exact .inr e
  · cases h
theorem CF.fnl (c : CF X N sc fn) {x : Str} (h : storeB sc fn x = true) : X.fn x = true ∨ X.env.scope.names.lookup x = some .local := by
  rw [c.hs, c.hf]
  unfold storeB at h
  split at h
  · rename_i e; exact .inr e
  · exact .inl h
  · cases h
theorem CF.gl (c : CF X N sc fn) {x : Str} (h : glB sc x = true) : Gl X x := by
  unfold glB at h
  unfold Gl
  show X.env.scope.names.lookup x = _
  rw [c.hs]
  split at h
  · assumption
  · cases h
end

/-! ### what is walked -/
/-- J walks the items ds, which lie in F -/
def Wk (b : Bool) (T : Kt) (J : It) (ds : List PyData) (F : Hp) : Prop := ∀ (i : Nat) (F1 H1 : Hp), Sub F F1 → Sub F1 H1 →
  (∀ d, ds[i]? = some d → J.go i H1 ∧ ∀ x H2, J.yld i H1 x H2 → Sub H1 H2 ∧ ∃ F2, Sub F1 F2 ∧ (∀ M G ρ σ, SR T M G F1 ρ σ H1 → SR T M G F2 ρ σ H2) ∧ RepB b T F2 d x) ∧ (ds[i]? = none → J.stop i H1)
def PIX (b : Bool) (X : Cx) (W : WX) (M : List Md) (tg iter : Expr) (f : DenL) : Prop :=
  ∃ wi : TI, PI X tg iter wi ∧ ∀ G F ρ σ H R, SR (kt X) M G F ρ σ H → Post X W M G F σ (f ρ) (fun ds ρ' F' H' => ∀ J, Wk b (kt X) J ds F' → R J H') → wi σ H R
/-- the items of a list, a tuple -/
def dItems (f : Den) : DenL := fun ρ => (f ρ).bind fun d ρ => match d with
  | .list ds => .ok ds ρ
  | .tuple ds => .ok ds ρ
  | _ => .bad
section
variable {X : Cx} {W : WX} {M : List Md} {k : Kd} {pos : Pos} {tg : Expr}
def iSeq (K : PySem.W.Frag) (tl : TE) : TI := fun σ H R => tl σ H fun x H1 => ∃ a, x = .ref a ∧ (((∃ xs, SqL K H1 a xs) ∧ R (Itl K a) H1) ∨ ((∃ xs, SqT K H1 a xs) ∧ R (Itt K a) H1))
theorem pi_seq {l : Expr} {tl : TE} (hl : PE X l tl) : PI X tg l (iSeq X.K tl) := by
  refine ⟨fun pins s σ H R I h => ?_⟩
  refine thn (hl.run pins s σ H _ I h) fun v s1 ⟨x, H1, I1, r1, q1⟩ => ?_
  obtain ⟨a, e, q⟩ := q1
  have g0 : PE X l (fun _ _ _ => False) := ⟨fun _ _ _ _ _ _ h => h.elim⟩
  rcases q with ⟨⟨xs, hq⟩, q⟩ | ⟨⟨xs, hq⟩, q⟩
  · subst e
    cases r1
    obtain ⟨its, rv, p, hz⟩ := I1.list hq
    refine wpAny_pyIter_list p.isList ⟨s1.heap.objs.size, [s1.heap.objs.size], _, _, H1, rfl, I1.kept (t' := s1.toks) fun b o e => Heap.get?_push_of_some _ e, turn_list a _, ⟨_, Heap.get?_push_size _ rfl, rfl, rfl⟩, fun b hb => ?_, q⟩
    obtain rfl : b = s1.heap.objs.size := by simpa using hb
    exact I1.fpOk (Nat.le_refl _) (I1.hok.fresh (Nat.le_refl _))
  · subst e
    cases r1
    obtain ⟨its, rv, p, hz⟩ := I1.tuple hq
    refine wpAny_pyIter_tuple (show s1.heap.IsTuple a its.toArray from p) ⟨s1.heap.objs.size, [s1.heap.objs.size], _, _, H1, rfl, I1.kept (t' := s1.toks) fun b o e => Heap.get?_push_of_some _ e, turn_tuple a _, ⟨_, Heap.get?_push_size _ rfl, rfl, rfl⟩, fun b hb => ?_, q⟩
    obtain rfl : b = s1.heap.objs.size := by simpa using hb
    exact I1.fpOk (Nat.le_refl _) (I1.hok.fresh (Nat.le_refl _))
theorem wk_list {bb : Bool} {T : Kt} {F : Hp} {a : Addr} {xs : List V} {ds : List PyData} (h : Rd F a (.lst xs)) (r : RepAll T F ds xs) : Wk bb T (Itl T.K a) ds F := by
  intro i F1 H1 s1 s2
  have hq : SqL T.K H1 a xs := .inl (sub_r (s1.tr s2) h)
  refine ⟨fun d hd => ?_, fun hn => ⟨xs, hq, ?_⟩⟩
  · obtain ⟨v, hv, rv⟩ := r.get hd
    refine ⟨⟨xs, v, hq, hv⟩, fun x H2 y => ?_⟩
    obtain ⟨rfl, y⟩ := y
    have e := y xs hq
    rw [hv] at e; cases e
    exact ⟨Sub.rfl', F1, Sub.rfl', fun _ _ _ _ S => S, (rv.mono s1).b⟩
  · rw [← r.length]; exact List.getElem?_eq_none_iff.mp hn
theorem wk_tup {bb : Bool} {T : Kt} {F : Hp} {a : Addr} {xs : List V} {ds : List PyData} (h : TupC T.K F a xs) (r : RepAll T F ds xs) : Wk bb T (Itt T.K a) ds F := by
  intro i F1 H1 s1 s2
  have hq : SqT T.K H1 a xs := tupC_sq (sub_c (s1.tr s2) h)
  refine ⟨fun d hd => ?_, fun hn => ⟨xs, hq, ?_⟩⟩
  · obtain ⟨v, hv, rv⟩ := r.get hd
    refine ⟨⟨xs, v, hq, hv⟩, fun x H2 y => ?_⟩
    obtain ⟨rfl, y⟩ := y
    have e := y xs hq
    rw [hv] at e; cases e
    exact ⟨Sub.rfl', F1, Sub.rfl', fun _ _ _ _ S => S, (rv.mono s1).b⟩
  · rw [← r.length]; exact List.getElem?_eq_none_iff.mp hn
theorem pix_seq {bb : Bool} {e : Expr} {f : Den} (h : PX X W M .sh e f) : PIX bb X W M tg e (dItems f) := by
  obtain ⟨t, p, q⟩ := h
  refine ⟨_, pi_seq p, fun G F ρ σ H R S w => q _ _ _ _ _ _ S ((Post.bind w).imp fun d ρ1 F1 H1 _ S1 w1 v r => ?_)⟩
  split at w1
  · cases r with
    | lst ha ra => exact ⟨_, rfl, .inl ⟨⟨_, .inl (sub_r S1.fh ha)⟩, w1.now S1 _ (wk_list (T := kt X) ha ra)⟩⟩
  · cases r with
    | tup ha ra => exact ⟨_, rfl, .inr ⟨⟨_, tupC_sq (sub_c S1.fh ha)⟩, w1.now S1 _ (wk_tup (T := kt X) ha ra)⟩⟩
  · exact w1.elim
/-- the signs of a text -/
def signs (x : Str) : List PyData := x.cps.toList.map fun c => .str ⟨#[c]⟩
def dSigns (f : Den) : DenL := fun ρ => (f ρ).bind fun d ρ => match d with
  | .str x => .ok (signs x) ρ
  | _ => .bad
theorem wk_str {bb : Bool} {T : Kt} {F : Hp} (x : Str) : Wk bb T (Its x) (signs x) F := by
  intro i F1 H1 s1 s2
  refine ⟨fun d hd => ?_, fun hn => ?_⟩
  · unfold signs at hd
    rw [List.getElem?_map, Array.getElem?_toList] at hd
    cases q : x.cps[i]? with
    | none => rw [q] at hd; cases hd
    | some c =>
      rw [q] at hd; cases hd
      refine ⟨(Array.getElem?_eq_some_iff.mp q).1, fun v H2 y => ?_⟩
      obtain ⟨rfl, c', hc, rfl⟩ := y
      rw [q] at hc; cases hc
      exact ⟨Sub.rfl', F1, Sub.rfl', fun _ _ _ _ S => S, (Rep.str _).b⟩
  · unfold signs at hn
    rw [List.getElem?_map, Array.getElem?_toList] at hn
    show x.cps.size ≤ i
    cases q : x.cps[i]? with
    | none => exact Array.getElem?_eq_none_iff.mp q
    | some c => rw [q] at hn; cases hn
theorem pix_str {bb : Bool} {e : Expr} {f : Den} (h : PX X W M .ow e f) : PIX bb X W M tg e (dSigns f) := by
  obtain ⟨t, p, q⟩ := h
  refine ⟨_, pi_str p, fun G F ρ σ H R S w => q _ _ _ _ _ _ S ((Post.bind w).imp fun d ρ1 F1 H1 _ S1 w1 v r => ?_)⟩
  split at w1
  · exact ⟨_, brw_str r, w1.now S1 _ (wk_str _)⟩
  · exact w1.elim
/-- range -/
def rngD (lo : Int) (n : Nat) : List PyData := (List.range n).map fun (i : Nat) => .int (lo + (i : Int))
theorem wk_rng {bb : Bool} {T : Kt} {F : Hp} (lo : Int) (n : Nat) : Wk bb T (Itr lo n) (rngD lo n) F := by
  intro i F1 H1 s1 s2
  refine ⟨fun d hd => ?_, fun hn => ?_⟩
  · unfold rngD at hd
    rw [List.getElem?_map] at hd
    cases q : (List.range n)[i]? with
    | none => rw [q] at hd; cases hd
    | some c =>
      rw [q] at hd; cases hd
      have hi := (List.getElem?_eq_some_iff.mp q).1
      have hc := (List.getElem?_eq_some_iff.mp q).2
      rw [List.getElem_range] at hc
      subst hc
      have hi' : i < n := by simpa using hi
      refine ⟨hi', fun v H2 y => ?_⟩
      obtain ⟨rfl, rfl⟩ := y
      exact ⟨Sub.rfl', F1, Sub.rfl', fun _ _ _ _ S => S, (Rep.int _).b⟩
  · unfold rngD at hn
    rw [List.getElem?_map] at hn
    show n ≤ i
    cases q : (List.range n)[i]? with
    | none => simpa using List.getElem?_eq_none_iff.mp q
    | some c => rw [q] at hn; cases hn
def dRng1 (f : Den) : DenL := fun ρ => (f ρ).bind fun d ρ => match d with
  | .int j => if -(2 ^ 62) ≤ j ∧ j < 2 ^ 62 then .ok (rngD 0 j.toNat) ρ else .bad
  | _ => .bad
theorem pix_rng1 {bb : Bool} {a : Expr} {f : Den} {p pos : Pos} (hg : Gl X "range") (hm : X.mg "range" = none) (h : PX X W M .sh a f) (hs : starEach [a] X.env = (false, eval a X.env) :: starEach [] X.env := by rfl) (hs' : starEach [a] X.env = [(false, eval a X.env)] := by rfl) : PIX bb X W M tg (.Call (.Name "range" p) [a] [] pos) (dRng1 f) := by
  obtain ⟨t, pt, q⟩ := h
  refine ⟨_, pi_range1 hg hm (pa_cons pt pa_nil hs) hs', fun G F ρ σ H R S w => q _ _ _ _ _ _ S ((Post.bind w).imp fun d ρ1 F1 H1 _ S1 w1 v r => ?_)⟩
  split at w1
  · split at w1
    · rename_i hj
      refine ⟨_, by rw [brw_int (H := H1) (.rep r)], hj.1, hj.2, w1.now S1 _ (wk_rng _ _)⟩
    · exact w1.elim
  · exact w1.elim
def dRng2 (f g : Den) : DenL := fun ρ => (f ρ).bind fun a ρ => (g ρ).bind fun b ρ => match a, b with
  | .int i, .int j => if -(2 ^ 62) ≤ i ∧ i < 2 ^ 62 ∧ -(2 ^ 62) ≤ j ∧ j < 2 ^ 62 then .ok (rngD i (j - i).toNat) ρ else .bad
  | _, _ => .bad
theorem pix_rng2 {bb : Bool} {a b : Expr} {f g : Den} {p pos : Pos} (hg : Gl X "range") (hm : X.mg "range" = none) (h : PX X W M .sh a f) (h2 : PX X W M .sh b g) (hs : starEach [a, b] X.env = (false, eval a X.env) :: starEach [b] X.env := by rfl) (hs2 : starEach [b] X.env = (false, eval b X.env) :: starEach [] X.env := by rfl)
    (hs' : starEach [a, b] X.env = [(false, eval a X.env), (false, eval b X.env)] := by rfl) (hs2' : starEach [b] X.env = [(false, eval b X.env)] := by rfl) : PIX bb X W M tg (.Call (.Name "range" p) [a, b] [] pos) (dRng2 f g) := by
  obtain ⟨t, pt, q⟩ := h
  obtain ⟨u, pu, q'⟩ := h2
  refine ⟨_, pi_range2 hg hm (pa_cons pt (pa_cons pu pa_nil hs2) hs) hs' hs2', fun G F ρ σ H R S w => q _ _ _ _ _ _ S ((Post.bind w).imp fun d ρ1 F1 H1 _ S1 w1 v r => ?_)⟩
  refine q' _ _ _ _ _ _ S1 ((Post.bind w1).imp fun d2 ρ2 F2 H2 _ S2 w2 v2 r2 => ?_)
  split at w2
  · split at w2
    · rename_i hj
      exact ⟨_, _, by rw [brw_int (H := H1) (.rep r), brw_int (H := H2) (.rep r2)], ⟨hj.1, hj.2.1, hj.2.2.1, hj.2.2.2⟩, w2.now S2 _ (wk_rng _ _)⟩
    · exact w2.elim
  · exact w2.elim
/-- enumerate of a list or a tuple; a new tuple each turn -/
def enumD (ds : List PyData) : List PyData := (List.range ds.length).map fun (i : Nat) => .tuple [.int (i : Int), ds.getD i .none]
end

/-! ### for -/
def forLoop (g : PyData → Env → Option Env) (body : DenS) : List PyData → DenS
  | [], ρ => .ok .nx ρ
  | d :: ds, ρ => match g d ρ with
    | none => .bad
    | some ρ1 => match body ρ1 with
      | .ok .nx ρ2 => forLoop g body ds ρ2
      | .ok .ct ρ2 => forLoop g body ds ρ2
      | .ok .bk ρ2 => .ok .nx ρ2
      | .ok (.rt v) ρ2 => .ok (.rt v) ρ2
      | .exc e ρ2 => .exc e ρ2
      | .bad => .bad
def dFor (it : DenL) (g : PyData → Env → Option Env) (body : DenS) : DenS := fun ρ => (it ρ).bind fun ds ρ => forLoop g body ds ρ
section
variable {X : Cx} {W : WX} {M : List Md} {k : Kd} {pos : Pos} {tg : Expr}
theorem psx_for {bb : Bool} {iter : Expr} {body : List Stmt} {it : DenL} {vs : List Nat} {g : PyData → Env → Option Env} {f : DenS} (hp : PassesOwn (model X.prog X.w) X.A X.env X.xe) (hc : X.calm = true) (hi : PIX bb X W M tg iter it) (hg : PGX bb X M tg vs g) (hb : PSsX X W M k body f)
    (hs : ∀ x, foldedSetIterable iter X.env x = pure x := by intro _; rfl) : PSX X W M k (.For tg iter body [] pos) (dFor it g f) := by
  obtain ⟨wi, pi, qi⟩ := hi
  obtain ⟨tgt, pg, qg⟩ := hg
  obtain ⟨tb, pb, qb⟩ := hb
  refine ⟨_, ps_for hp hc pi pg pb hs, fun G F ρ σ H D S w => qi _ _ _ _ _ _ S ((PostS.bind w).imp fun ds ρ1 F1 H1 s1 S1 w1 J wk => ?_)⟩
  refine ⟨fun i m σ' H' => m = ds.length - i ∧ i ≤ ds.length ∧ ∃ ρ' F', SR (kt X) M G F' ρ' σ' H' ∧ Sub F1 F' ∧ Keep M σ σ' ∧ PostS X W M k G F' σ' (forLoop g f (ds.drop i) ρ') D, ⟨_, rfl, Nat.zero_le _, ρ1, F1, S1, Sub.rfl', Keep.rfl', w1⟩, ?_⟩
  rintro i m σ' H' ⟨rfl, hi, ρ', F', S', s', k', w'⟩
  by_cases hlt : i < ds.length
  · obtain ⟨hgo, hy⟩ := (wk i F' H' s' S'.fh).1 ds[i] (List.getElem?_eq_getElem hlt)
    rw [List.drop_eq_getElem_cons hlt] at w'
    refine .inr ⟨hgo, fun σ7 H7 => ds.length - (i + 1) = ds.length - (i + 1) ∧ i + 1 ≤ ds.length ∧ ∃ ρ' F', SR (kt X) M G F' ρ' σ7 H7 ∧ Sub F1 F' ∧ Keep M σ σ7 ∧ PostS X W M k G F' σ7 (forLoop g f (ds.drop (i + 1)) ρ') D, fun σ7 H7 h7 => ⟨_, by omega, h7⟩, fun x H2 y => ?_⟩
    obtain ⟨_, F2, s2, tr, rx⟩ := hy x H2 y
    have S2 := tr _ _ _ _ S'
    unfold forLoop at w'
    split at w'
    · exact w'.elim
    · rename_i ρ3 e3
      refine qg _ _ _ _ _ _ _ _ _ S2 rx e3 fun σ3 S3 k3 _ => qb _ _ _ _ _ _ S3 ?_
      have w3 := PostS.up w' s2 k3
      have kk := k'.tr k3
      revert w3
      cases f ρ3 with
      | bad => exact fun h => h
      | exc e ρ4 => exact fun h => h
      | ok fl ρ4 =>
        cases fl with
        | nx => exact fun h F4 H4 σ4 s4 S4 k4 => ⟨rfl, hlt, ρ4, F4, S4, (s'.tr s2).tr s4, kk.tr k4, PostS.up h s4 k4⟩
        | ct => exact fun h F4 H4 σ4 s4 S4 k4 => ⟨rfl, hlt, ρ4, F4, S4, (s'.tr s2).tr s4, kk.tr k4, PostS.up h s4 k4⟩
        | bk => exact fun h => h
        | rt d => exact fun h => h
  · have e : i = ds.length := by omega
    subst e
    rw [List.drop_length] at w'
    exact .inl ⟨(wk _ F' H' s' S'.fh).2 (List.getElem?_eq_none_iff.mpr (Nat.le_refl _)), w' F' H' σ' Sub.rfl' S' Keep.rfl'⟩
/-! ### while -/
def whileLoop (c : DenB) (body : DenS) : Nat → DenS
  | 0, _ => .bad
  | n + 1, ρ => (c ρ).bind fun b ρ1 => if b = true then (match body ρ1 with
      | .ok .nx ρ2 => whileLoop c body n ρ2
      | .ok .ct ρ2 => whileLoop c body n ρ2
      | .ok .bk ρ2 => .ok .nx ρ2
      | .ok (.rt v) ρ2 => .ok (.rt v) ρ2
      | .exc e ρ2 => .exc e ρ2
      | .bad => .bad) else .ok .nx ρ1
theorem psx_while {c : Expr} {body : List Stmt} {fc : DenB} {f : DenS} (n : Nat) (hp : PassesOwn (model X.prog X.w) X.A X.env X.xe) (hc : PXT X W M c fc) (hb : PSsX X W M k body f) : PSX X W M k (.While c body [] pos) (whileLoop fc f n) := by
  obtain ⟨tc, pc, qc⟩ := hc
  obtain ⟨tb, pb, qb⟩ := hb
  refine ⟨_, ps_while hp pc pb, fun G F ρ σ H D S w => ?_⟩
  refine ⟨fun m σ' H' => ∃ ρ' F', SR (kt X) M G F' ρ' σ' H' ∧ Sub F F' ∧ Keep M σ σ' ∧ PostS X W M k G F' σ' (whileLoop fc f m ρ') D, ⟨n, ρ, F, S, Sub.rfl', Keep.rfl', w⟩, ?_⟩
  rintro m σ' H' ⟨ρ', F', S', s', k', w'⟩
  cases m with
  | zero => exact w'.elim
  | succ m =>
    unfold whileLoop at w'
    refine qc _ _ _ _ _ _ S' ((PostS.bind w').imp fun b ρ1 F1 H1 s1 S1 w1 => ?_)
    cases b with
    | false => rw [if_neg Bool.false_ne_true] at w1 ⊢; exact w1 F1 H1 σ' Sub.rfl' S1 Keep.rfl'
    | true =>
      rw [if_pos rfl] at w1 ⊢
      refine ⟨fun σ7 H7 => ∃ ρ' F', SR (kt X) M G F' ρ' σ7 H7 ∧ Sub F F' ∧ Keep M σ σ7 ∧ PostS X W M k G F' σ7 (whileLoop fc f m ρ') D, fun σ7 H7 h7 => ⟨m, Nat.lt_succ_self _, h7⟩, qb _ _ _ _ _ _ S1 ?_⟩
      revert w1
      cases f ρ1 with
      | bad => exact fun h => h
      | exc e ρ4 => exact fun h => h
      | ok fl ρ4 =>
        cases fl with
        | nx => exact fun h F4 H4 σ4 s4 S4 k4 => ⟨ρ4, F4, S4, (s'.tr s1).tr s4, k'.tr k4, PostS.up h s4 k4⟩
        | ct => exact fun h F4 H4 σ4 s4 S4 k4 => ⟨ρ4, F4, S4, (s'.tr s1).tr s4, k'.tr k4, PostS.up h s4 k4⟩
        | bk => exact fun h => h
        | rt d => exact fun h => h
end
end PD

set_option Elab.async false
set_option linter.all false
set_option maxRecDepth 100000
set_option maxHeartbeats 2000000
set_option autoImplicit false
namespace PD
open PySem L2

/-! ### blocks of comprehensions -/
structure Blk where
  s : Shared
  H : Hp
  C : Addr
  cl : List (Str × Addr)
  fp : List Addr
abbrev bX (X : Cx) (scope : Scope) (b : Blk) : Cx := X.blk b.s b.H scope (compEnvC scope b.cl b.C X.env) b.fp
abbrev W0 : WX := fun _ _ _ _ => False
abbrev bfn (scope : Scope) : Str → Bool := fun x => scope.names.lookup x == some .cell
theorem CF.blk {X : Cx} {N : List Str} {sc : Scope} {fn : Str → Bool} (c : CF X N sc fn) (scope : Scope) (b : Blk) : CF (bX X scope b) N (relS scope sc) (bfn scope) :=
  ⟨c.hN, by show relS scope X.env.scope = _; rw [c.hs], rfl, c.nd, c.calm, c.gd, c.un⟩
theorem CF.hN' {X : Cx} {N : List Str} {sc : Scope} {fn : Str → Bool} (c : CF X N sc fn) {scope : Scope} {own : List (Str × Nat)} (h : blkC N sc scope own = true) : BlkOk X.N X.env.scope scope own := by
  rw [c.hN, c.hs]; exact blkOk_by h

def wipeE (ρ : Env) : List Nat → Env
  | [] => ρ
  | v :: vs => (wipeE ρ vs).set v none
theorem wipeE_length (ρ : Env) : ∀ vs, (wipeE ρ vs).length = ρ.length
  | [] => rfl
  | v :: vs => by unfold wipeE; rw [List.length_set, wipeE_length ρ vs]
theorem wipeE_some {ρ : Env} {i : Nat} {d : PyData} : ∀ {vs : List Nat}, (wipeE ρ vs)[i]? = some (some d) → ρ[i]? = some (some d) ∧ i ∉ vs
  | [], h => ⟨h, by simp⟩
  | v :: vs, h => by
    unfold wipeE at h
    by_cases hi : v = i
    · subst hi
      by_cases hv : v < (wipeE ρ vs).length
      · rw [List.getElem?_set_self hv] at h; cases h
      · rw [List.getElem?_eq_none (by simpa using hv)] at h; cases h
    · rw [List.getElem?_set_ne hi] at h
      obtain ⟨h1, h2⟩ := wipeE_some h
      exact ⟨h1, by simp only [List.mem_cons, not_or]; exact ⟨fun e => hi e.symm, h2⟩⟩
theorem wipe_out' {σ : St} {i : Nat} : ∀ {vs : List Nat}, i ∉ vs → (wipe σ vs)[i]? = σ[i]?
  | [], _ => rfl
  | v :: vs, h => by
    simp only [List.mem_cons, not_or] at h
    unfold wipe
    rw [List.getElem?_set_ne (fun e => h.1 e.symm)]
    exact wipe_out' h.2
/-- the block's slots as they were -/
def unwipe (ρ0 ρ : Env) (vs : List Nat) : Env := (List.range ρ.length).map fun i => if i ∈ vs then (ρ0[i]?).getD none else (ρ[i]?).getD none
theorem unwipe_length (ρ0 ρ : Env) (vs : List Nat) : (unwipe ρ0 ρ vs).length = ρ.length := by unfold unwipe; simp
theorem unwipe_some {ρ0 ρ : Env} {vs : List Nat} {i : Nat} {d : PyData} (h : (unwipe ρ0 ρ vs)[i]? = some (some d)) : (i ∈ vs ∧ ρ0[i]? = some (some d)) ∨ (i ∉ vs ∧ ρ[i]? = some (some d)) := by
  unfold unwipe at h
  rw [List.getElem?_map] at h
  cases q : (List.range ρ.length)[i]? with
  | none => rw [q] at h; cases h
  | some c =>
    obtain ⟨h1, h2⟩ := List.getElem?_eq_some_iff.mp q
    rw [List.getElem_range] at h2
    subst h2
    rw [q] at h
    have h : (if i ∈ vs then (ρ0[i]?).getD none else (ρ[i]?).getD none) = some d := by simpa using h
    split at h
    · rename_i hm
      refine .inl ⟨hm, ?_⟩
      cases e : ρ0[i]? with
      | none => rw [e] at h; cases h
      | some o => rw [e] at h; rw [show o = some d from h]
    · rename_i hm
      refine .inr ⟨hm, ?_⟩
      cases e : ρ[i]? with
      | none => rw [e] at h; cases h
      | some o => rw [e] at h; rw [show o = some d from h]

section
variable {T : Kt} {M : List Md} {G F F' : Hp} {ρ ρ' : Env} {σ σ' : St} {H H' : Hp}
theorem SR.forget (S : SR T M G F ρ σ H) (hl : ρ'.length = ρ.length) (hs : σ'.length = σ.length) (h : ∀ (i : Nat) (d : PyData), ρ'[i]? = some (some d) → ρ[i]? = some (some d) ∧ σ'[i]? = σ[i]?) : SR T M G F ρ' σ' H := by
  refine ⟨S.gh, S.fh, by rw [hl]; exact S.lm, by rw [hl, hs]; exact S.ls, fun i d m hd hm => ?_, fun i j a oi oj => ?_, S.dj⟩
  · obtain ⟨h1, h2⟩ := h i d hd
    rw [h2]
    exact S.sl i d m h1 hm
  · have back : ∀ n, OwnAt M ρ' σ' n a → OwnAt M ρ σ n a := by
      rintro n ⟨m, d, q1, q2, q3, q4⟩
      obtain ⟨h1, h2⟩ := h n d q3
      exact ⟨m, d, q1, q2, h1, by rw [← h2]; exact q4⟩
    exact S.ap i j a (back i oi) (back j oj)
/-- a further object is guarded -/
theorem SR.guard {p : Addr} {o : HO} (S : SR T M G F ρ σ H) (hp : H p = some o) (hF : F p = none) (hn : ∀ i, ¬ OwnAt M ρ σ i p) : SR T M (upd G p o) F ρ σ H := by
  refine ⟨S.gh.add hp, S.fh, S.lm, S.ls, fun i d m hd hm => ?_, S.ap, fun b u hb => ?_⟩
  rotate_left
  · by_cases q : b = p
    · rw [q]; exact hF
    · rw [upd_ne q] at hb; exact S.dj b u hb
  have q := S.sl i d m hd hm
  cases m with
  | sh => exact q
  | fz => exact q
  | ow =>
    obtain ⟨a, e, g, f, t⟩ := q
    exact ⟨a, e, by rw [upd_ne (show a ≠ p from fun e2 => hn i (e2 ▸ ⟨.ow, d, hm, rfl, hd, e⟩))]; exact g, f, t⟩
  | pm =>
    obtain ⟨a, e, g, f, t⟩ := q
    exact ⟨a, e, by rw [upd_ne (show a ≠ p from fun e2 => hn i (e2 ▸ ⟨.pm, d, hm, rfl, hd, e⟩))]; exact g, f, t⟩
theorem SR.unguard {G' : Hp} (S : SR T M G F ρ σ H) (h : Sub G' G) : SR T M G' F ρ σ H := by
  refine ⟨h.tr S.gh, S.fh, S.lm, S.ls, fun i d m hd hm => ?_, S.ap, fun b u hb => S.dj b u (h b u hb)⟩
  have q := S.sl i d m hd hm
  cases m with
  | sh => exact q
  | fz => exact q
  | ow => obtain ⟨a, e, g, f, t⟩ := q; exact ⟨a, e, h.none g, f, t⟩
  | pm => obtain ⟨a, e, g, f, t⟩ := q; exact ⟨a, e, h.none g, f, t⟩
/-- a guarded object is no own one -/
theorem SR.apart (S : SR T M G F ρ σ H) {p : Addr} {o : HO} (h : G p = some o) : ∀ i, ¬ OwnAt M ρ σ i p := fun i oi => by
  have := (S.own oi).1
  rw [h] at this; cases this
/-- the guarded object changes -/
theorem SR.turn {p : Addr} {o u : HO} (S : SR T M (upd G p o) F ρ σ H) (hF : F p = none) (hG : G p = none) : SR T M (upd G p u) F ρ σ (upd H p u) := by
  have hp : upd G p o p = some o := upd_same
  have hn := S.apart hp
  have S1 : SR T M G F ρ σ (upd H p u) := (S.unguard (Sub.mk hG)).step Sub.rfl' ((Sub.tr (Sub.mk hG) S.gh).wr hG) (S.fh.wr hF) (fun i a oa => by
    have q : a ≠ p := fun e => hn i (by subst e; exact oa)
    exact ⟨upd_ne q, (S.own oa).2.1⟩) fun b u hb => S.dj b u (Sub.mk hG b u hb)
  exact S1.guard upd_same hF hn
end

/-! ### one uniform reading for all blocks -/
theorem PX.all {B : Type} {Xs : B → Cx} {W : WX} {M : List Md} {k : Kd} {e : Expr} {f : Den} (h : ∀ b, PX (Xs b) W M k e f) : ∃ t : TE, (∀ b, PE (Xs b) e t) ∧ ∀ σ H Q, (∀ b, ∃ G F ρ, SR (kt (Xs b)) M G F ρ σ H ∧ Post (Xs b) W M G F σ (f ρ) (fun d ρ' F' H' => ∀ v, ResK k (kt (Xs b)) M G F' H' ρ' σ v d → Q v H')) → t σ H Q := by
  refine ⟨fun σ H Q => ∀ b, (Classical.choose (h b)) σ H Q, fun b => ⟨fun pins s σ H Q I q => (Classical.choose_spec (h b)).1.run pins s σ H Q I (q b)⟩, fun σ H Q q b => ?_⟩
  obtain ⟨G, F, ρ, S, p⟩ := q b
  exact (Classical.choose_spec (h b)).2 G F ρ σ H Q S p
def PXTs (X : Cx) (W : WX) (M : List Md) (es : List Expr) (f : DenB) : Prop :=
  ∃ t : TT, PTs X es t ∧ ∀ G F ρ σ H Q, SR (kt X) M G F ρ σ H → Post X W M G F σ (f ρ) (fun b _ _ H' => Q b H') → t σ H Q
def dYes : DenB := fun ρ => .ok true ρ
theorem pxts_nil {X : Cx} {W : WX} {M : List Md} : PXTs X W M [] dYes := ⟨_, pts_nil, fun G F ρ σ H Q S p => p.now S⟩
theorem pxts_one {X : Cx} {W : WX} {M : List Md} {e : Expr} {f : DenB} (h : PXT X W M e f) : PXTs X W M [e] f := let ⟨t, p, q⟩ := h; ⟨_, pts_one p, q⟩
theorem PXTs.all {B : Type} {Xs : B → Cx} {W : WX} {M : List Md} {es : List Expr} {f : DenB} (h : ∀ b, PXTs (Xs b) W M es f) : ∃ t : TT, (∀ b, PTs (Xs b) es t) ∧ ∀ σ H Q, (∀ b, ∃ G F ρ, SR (kt (Xs b)) M G F ρ σ H ∧ Post (Xs b) W M G F σ (f ρ) (fun c _ _ H' => Q c H')) → t σ H Q := by
  refine ⟨fun σ H Q => ∀ b, (Classical.choose (h b)) σ H Q, fun b => ⟨fun pins s σ H Q I q => (Classical.choose_spec (h b)).1.run pins s σ H Q I (q b)⟩, fun σ H Q q b => ?_⟩
  obtain ⟨G, F, ρ, S, p⟩ := q b
  exact (Classical.choose_spec (h b)).2 G F ρ σ H Q S p
theorem PGX.all {bb : Bool} {B : Type} {Xs : B → Cx} {M : List Md} {tg : Expr} {vs : List Nat} {g : PyData → Env → Option Env} (h : ∀ b, PGX bb (Xs b) M tg vs g) : ∃ t : TG, (∀ b, PG (Xs b) tg t) ∧ ∀ v σ H Q, (∀ b, ∃ G F ρ d ρ', SR (kt (Xs b)) M G F ρ σ H ∧ RepB bb (kt (Xs b)) F d v ∧ g d ρ = some ρ' ∧
    (∀ σ', SR (kt (Xs b)) M G F ρ' σ' H → Keep M σ σ' → (∀ i, i ∉ vs → σ'[i]? = σ[i]?) → Q σ' H)) → t v σ H Q := by
  refine ⟨fun v σ H Q => ∀ b, (Classical.choose (h b)) v σ H Q, fun b => ⟨fun pins s σ H v u Q I r q => (Classical.choose_spec (h b)).1.run pins s σ H v u Q I r (q b)⟩, fun v σ H Q q b => ?_⟩
  obtain ⟨G, F, ρ, d, ρ', S, r, e, k⟩ := q b
  exact (Classical.choose_spec (h b)).2 G F ρ σ H v d ρ' Q S r e k
theorem PIX.all {bb : Bool} {B : Type} {Xs : B → Cx} {W : WX} {M : List Md} {tg iter : Expr} {f : DenL} (h : ∀ b, PIX bb (Xs b) W M tg iter f) : ∃ wi : TI, (∀ b, PI (Xs b) tg iter wi) ∧ ∀ σ H R, (∀ b, ∃ G F ρ, SR (kt (Xs b)) M G F ρ σ H ∧ Post (Xs b) W M G F σ (f ρ) (fun ds ρ' F' H' => ∀ J, Wk bb (kt (Xs b)) J ds F' → R J H')) → wi σ H R := by
  refine ⟨fun σ H R => ∀ b, (Classical.choose (h b)) σ H R, fun b => ⟨fun pins s σ H R I q => (Classical.choose_spec (h b)).1.run pins s σ H R I (q b)⟩, fun σ H R q b => ?_⟩
  obtain ⟨G, F, ρ, S, p⟩ := q b
  exact (Classical.choose_spec (h b)).2 G F ρ σ H R S p

/-! ### [elt for tg in iter if ..] -/
def lcLoop (g : PyData → Env → Option Env) (tt : DenB) (te : Den) (vs : List Nat) : List PyData → DenL
  | [], ρ => .ok [] ρ
  | d :: ds, ρ => match g d ρ with
    | none => .bad
    | some ρ1 => match tt ρ1 with
      | .ok true ρ2 => (match te ρ2 with
        | .ok y ρ3 => (match lcLoop g tt te vs ds (wipeE ρ3 vs) with
          | .ok ys ρ4 => .ok (y :: ys) ρ4
          | _ => .bad)
        | _ => .bad)
      | .ok false ρ2 => lcLoop g tt te vs ds (wipeE ρ2 vs)
      | _ => .bad
def lcAll (g : PyData → Env → Option Env) (tt : DenB) (te : Den) (vs : List Nat) (ds : List PyData) (ρ : Env) : Out PyData := match lcLoop g tt te vs ds (wipeE ρ vs) with
  | .ok ys ρ' => if ys.length ≤ sizeLine then .ok (.list ys) (unwipe ρ ρ' vs) else .bad
  | _ => .bad
def dLC (it : DenL) (g : PyData → Env → Option Env) (tt : DenB) (te : Den) (vs : List Nat) : Den := fun ρ => (it ρ).bind fun ds ρ => lcAll g tt te vs ds ρ
section
variable {X : Cx} {W : WX} {M : List Md} {k : Kd} {pos : Pos} {tg : Expr}
/-- what stands between two turns -/
structure LcW (X : Cx) (M : List Md) (G F0 : Hp) (σ : St) (vs : List Nat) (D : Addr) (g : PyData → Env → Option Env) (tt : DenB) (te : Den) (ds : List PyData) (total : List PyData) (ρend : Env) (i : Nat) (H : Hp) : Prop where
  le : i ≤ ds.length
  ex : ∃ ρ F acc done rest, SR (kt X) M (upd G D (.lst acc)) F ρ (wipe σ vs) H ∧ Sub F0 F ∧ F D = none ∧ RepAll (kt X) F done acc ∧ total = done ++ rest ∧ lcLoop g tt te vs (ds.drop i) ρ = .ok rest ρend
theorem wipe_eq {σ σ' : St} {vs : List Nat} (hl : σ'.length = σ.length) (h : ∀ i, i ∉ vs → σ'[i]? = (wipe σ vs)[i]?) : wipe σ' vs = wipe σ vs := by
  apply List.ext_getElem?
  intro i
  by_cases hi : i ∈ vs
  · have none_of : ∀ (τ : St), i < τ.length → (wipe τ vs)[i]? = some none := fun τ ht => by
      cases q : (wipe τ vs)[i]? with
      | none => rw [List.getElem?_eq_none_iff, wipe_length] at q; omega
      | some o =>
        cases o with
        | none => rfl
        | some x => exact absurd hi (wipe_some q).2
    by_cases ht : i < σ.length
    · rw [none_of σ ht, none_of σ' (by omega)]
    · rw [List.getElem?_eq_none (by rw [wipe_length]; omega), List.getElem?_eq_none (by rw [wipe_length]; omega)]
  · rw [wipe_out' hi, h i hi]
theorem wipe_sr {T : Kt} {G F : Hp} {ρ : Env} {σ σ' : St} {H : Hp} {vs : List Nat} (S : SR T M G F ρ σ' H) (hl : σ'.length = σ.length) (h : ∀ i, i ∉ vs → σ'[i]? = (wipe σ vs)[i]?) : SR T M G F (wipeE ρ vs) (wipe σ vs) H :=
  S.forget (wipeE_length ρ vs) (by rw [wipe_length]; exact hl.symm) fun i d hd => by
    obtain ⟨h1, h2⟩ := wipeE_some hd
    exact ⟨h1, (h i h2).symm⟩
/-- one turn's reading -/
theorem lc_turn {bb : Bool} {G F0 : Hp} {σ : St} {vs : List Nat} {D : Addr} {g : PyData → Env → Option Env} {tt : DenB} {te : Den} {ds total : List PyData} {ρend : Env} {i : Nat} {H : Hp} {J : It} (hG : G D = none) (wk : Wk bb (kt X) J ds F0) (hz : total.length ≤ sizeLine)
    (w : LcW X M G F0 σ vs D g tt te ds total ρend i H) {tgt : TG} {ttt : TT} {tet : TE}
    (qg : ∀ v σ H Q, (∃ G F ρ d ρ', SR (kt X) M G F ρ σ H ∧ RepB bb (kt X) F d v ∧ g d ρ = some ρ' ∧ (∀ σ', SR (kt X) M G F ρ' σ' H → Keep M σ σ' → (∀ i, i ∉ vs → σ'[i]? = σ[i]?) → Q σ' H)) → tgt v σ H Q)
    (qt : ∀ σ H Q, (∃ G F ρ, SR (kt X) M G F ρ σ H ∧ Post X W0 M G F σ (tt ρ) (fun c _ _ H' => Q c H')) → ttt σ H Q)
    (qe : ∀ σ H Q, (∃ G F ρ, SR (kt X) M G F ρ σ H ∧ Post X W0 M G F σ (te ρ) (fun d ρ' F' H' => ∀ v, ResK .sh (kt X) M G F' H' ρ' σ v d → Q v H')) → tet σ H Q) (hlt : i < ds.length) :
    J.go i H ∧ ∀ x H', J.yld i H x H' → tgt x (wipe σ vs) H' fun σ2 H2 => wipe σ2 vs = wipe σ vs ∧ ttt σ2 H2 fun b H3 =>
      if b = true then tet σ2 H3 fun y H4 => ∃ acc, H4 D = some (.lst acc) ∧ acc.length < sizeLine ∧ LcW X M G F0 σ vs D g tt te ds total ρend (i + 1) (upd H4 D (.lst (acc ++ [y])))
      else LcW X M G F0 σ vs D g tt te ds total ρend (i + 1) H3 := by
  obtain ⟨_, ρ, F, acc, done, rest, S, s0, hF, rd, et, el⟩ := w
  have hD : upd G D (HO.lst acc) D = some (.lst acc) := upd_same
  obtain ⟨hgo, hy⟩ := (wk i F H s0 S.fh).1 ds[i] (List.getElem?_eq_getElem hlt)
  refine ⟨hgo, fun x H' y => ?_⟩
  obtain ⟨sH, F2, s2, tr, rx⟩ := hy x H' y
  have S2 := tr _ _ _ _ S
  rw [List.drop_eq_getElem_cons hlt] at el
  unfold lcLoop at el
  cases e1 : g ds[i] ρ with
  | none => rw [e1] at el; cases el
  | some ρ1 =>
    rw [e1] at el
    dsimp only at el
    refine qg _ _ _ _ ⟨_, F2, ρ, ds[i], ρ1, S2, rx, e1, fun σ2 S3 k3 o3 => ?_⟩
    have l3 : σ2.length = σ.length := k3.1.trans (wipe_length σ vs)
    refine ⟨wipe_eq l3 o3, ?_⟩
    cases e2 : tt ρ1 with
    | bad => rw [e2] at el; cases el
    | exc _ _ => rw [e2] at el; cases el
    | ok b ρ2 =>
      rw [e2] at el
      refine qt _ _ _ ⟨_, F2, ρ1, S3, ?_⟩
      rw [e2]
      intro F3 H3 s3 S4
      cases b with
      | false =>
        rw [if_neg Bool.false_ne_true]
        dsimp only at el
        exact ⟨hlt, wipeE ρ2 vs, F3, acc, done, rest, wipe_sr S4 l3 o3, (s0.tr s2).tr s3, S4.dj D _ upd_same, rd.mono (s2.tr s3), et, el⟩
      | true =>
        rw [if_pos rfl]
        dsimp only at el
        cases e3 : te ρ2 with
        | bad => rw [e3] at el; cases el
        | exc _ _ => rw [e3] at el; cases el
        | ok y ρ3 =>
          rw [e3] at el
          dsimp only at el
          refine qe _ _ _ ⟨_, F3, ρ2, S4, ?_⟩
          rw [e3]
          intro F4 H4 s4 S5 v rv
          have hF4 : F4 D = none := S5.dj D _ upd_same
          cases e4 : lcLoop g tt te vs (ds.drop (i + 1)) (wipeE ρ3 vs) with
          | bad => rw [e4] at el; cases el
          | exc _ _ => rw [e4] at el; cases el
          | ok ys ρ4 =>
            rw [e4] at el
            cases el
            have ra := rd.mono ((s2.tr s3).tr s4)
            refine ⟨acc, S5.gh D _ upd_same, ?_, hlt, wipeE ρ3 vs, F4, acc ++ [v], done ++ [y], ys, wipe_sr (S5.turn hF4 hG) l3 o3, ((s0.tr s2).tr s3).tr s4, hF4, ra.append (.cons rv .nil), by rw [et]; simp, e4⟩
            rw [← rd.length]
            rw [et, List.length_append, List.length_cons] at hz
            omega
theorem lc_end {G F0 H0 : Hp} {ρ0 : Env} {σ : St} {vs : List Nat} {D : Addr} {g : PyData → Env → Option Env} {tt : DenB} {te : Den} {ds total : List PyData} {ρend : Env} {H : Hp} {Q : VK} (hvs : ∀ i ∈ vs, M[i]? = some .sh) (hG : G D = none)
    (S0 : SR (kt X) M G F0 ρ0 σ H0) (w : LcW X M G F0 σ vs D g tt te ds total ρend ds.length H) (p : Post X W M G F0 σ (.ok (PyData.list total) (unwipe ρ0 ρend vs)) fun d ρ' F' H' => ∀ v, ResK .fr (kt X) M G F' H' ρ' σ v d → Q v H') : Q (.ref D) H := by
  obtain ⟨_, ρ, F, acc, done, rest, S, s0, hF, rd, et, el⟩ := w
  rw [List.drop_length] at el
  cases el
  rw [List.append_nil] at et
  subst et
  have S1 := S.unguard (Sub.mk hG)
  have hap := S.apart (p := D) upd_same
  have back : ∀ n a, OwnAt M (unwipe ρ0 ρend vs) σ n a → OwnAt M ρend (wipe σ vs) n a := by
    rintro n a ⟨m, d, h1, h2, h3, h4⟩
    rcases unwipe_some h3 with ⟨hm, _⟩ | ⟨hm, h3⟩
    · rw [hvs n hm] at h1; cases h1; cases h2
    · exact ⟨m, d, h1, h2, h3, by rw [wipe_out' hm]; exact h4⟩
  have S2 : SR (kt X) M G F (unwipe ρ0 ρend vs) σ H := by
    refine ⟨S1.gh, S1.fh, by rw [unwipe_length]; exact S1.lm, by rw [unwipe_length]; exact Nat.le_trans S1.ls (Nat.le_of_eq (wipe_length σ vs)), fun i d m hd hm => ?_, fun i j a oi oj => S1.ap i j a (back i a oi) (back j a oj), S1.dj⟩
    rcases unwipe_some hd with ⟨hv, hd⟩ | ⟨hv, hd⟩
    · rw [hvs i hv] at hm; cases hm
      obtain ⟨v, e, r⟩ := S0.sl i d .sh hd (hvs i hv)
      exact ⟨v, e, r.mono s0⟩
    · have q := S1.sl i d m hd hm
      rw [wipe_out' hv] at q
      exact q
  exact p F H s0 S2 _ ⟨fun q => (by cases q), fun _ => ⟨D, rfl, hG, hF, .lst (S.gh D _ upd_same) rd, fun i oi => hap i (back i D oi)⟩⟩
theorem lc_read {bb : Bool} {wi : TI} {tgt : TG} {ttt : TT} {tet : TE} {it : DenL} {g : PyData → Env → Option Env} {tt : DenB} {te : Den} {vs : List Nat} (hvs : ∀ i ∈ vs, M[i]? = some .sh)
    (qi : ∀ G F ρ σ H R, SR (kt X) M G F ρ σ H → Post X W M G F σ (it ρ) (fun ds ρ' F' H' => ∀ J, Wk bb (kt X) J ds F' → R J H') → wi σ H R)
    (qg : ∀ v σ H Q, (∃ G F ρ d ρ', SR (kt X) M G F ρ σ H ∧ RepB bb (kt X) F d v ∧ g d ρ = some ρ' ∧ (∀ σ', SR (kt X) M G F ρ' σ' H → Keep M σ σ' → (∀ i, i ∉ vs → σ'[i]? = σ[i]?) → Q σ' H)) → tgt v σ H Q)
    (qt : ∀ σ H Q, (∃ G F ρ, SR (kt X) M G F ρ σ H ∧ Post X W0 M G F σ (tt ρ) (fun c _ _ H' => Q c H')) → ttt σ H Q)
    (qe : ∀ σ H Q, (∃ G F ρ, SR (kt X) M G F ρ σ H ∧ Post X W0 M G F σ (te ρ) (fun d ρ' F' H' => ∀ v, ResK .sh (kt X) M G F' H' ρ' σ v d → Q v H')) → tet σ H Q)
    {G F H : Hp} {ρ : Env} {σ : St} {Q : VK} (S : SR (kt X) M G F ρ σ H) (w : Post X W M G F σ (dLC it g tt te vs ρ) fun d ρ' F' H' => ∀ v, ResK .fr (kt X) M G F' H' ρ' σ v d → Q v H') : tLc wi tgt ttt tet vs σ H Q := by
  refine qi _ _ _ _ _ _ S ((Post.bind w).imp fun ds ρ0 F1 H1 s1 S1 w1 J wk => ?_)
  intro D hD
  unfold lcAll at w1
  cases el : lcLoop g tt te vs ds (wipeE ρ0 vs) with
  | bad => rw [el] at w1; exact w1.elim
  | exc _ _ => rw [el] at w1; exact w1.elim
  | ok total ρend =>
    rw [el] at w1
    dsimp only at w1
    split at w1
    · rename_i hz
      have hG : G D = none := S1.gh.none hD
      have hF : F1 D = none := S1.fh.none hD
      have start : LcW X M G F1 σ vs D g tt te ds total ρend 0 (upd H1 D (.lst [])) := by
        refine ⟨Nat.zero_le _, wipeE ρ0 vs, F1, [], [], total, ?_, Sub.rfl', hF, .nil, rfl, el⟩
        refine (S1.fresh hD |>.forget (wipeE_length _ _) (wipe_length _ _) fun i d hd => ?_).guard upd_same hF fun i oi => ?_
        · obtain ⟨h1, h2⟩ := wipeE_some hd
          exact ⟨h1, wipe_out' h2⟩
        · obtain ⟨m, d, h1, h2, h3, h4⟩ := oi
          obtain ⟨h3', h5⟩ := wipeE_some h3
          rw [wipe_out' h5] at h4
          obtain ⟨_, _, u, hu⟩ := S1.own ⟨m, d, h1, h2, h3', h4⟩
          rw [hD] at hu; cases hu
      refine ⟨fun i m H' => m = ds.length - i ∧ LcW X M G F1 σ vs D g tt te ds total ρend i H', ⟨_, rfl, start⟩, ?_⟩
      rintro i m H' ⟨rfl, lw⟩
      by_cases hlt : i < ds.length
      · obtain ⟨hgo, hy⟩ := lc_turn hG wk hz lw qg qt qe hlt
        refine .inr ⟨hgo, fun H' => LcW X M G F1 σ vs D g tt te ds total ρend (i + 1) H', fun H2 h2 => ⟨_, by omega, rfl, h2⟩, hy⟩
      · have e : i = ds.length := by have := lw.le; omega
        subst e
        have hfh : Sub F1 H' := by
          obtain ⟨_, ρx, Fx, accx, dx, rx, Sx, sx, _⟩ := lw
          exact sx.tr Sx.fh
        exact .inl ⟨(wk _ F1 H' Sub.rfl' hfh).2 (List.getElem?_eq_none_iff.mpr (Nat.le_refl _)), lc_end hvs hG S1 lw w1⟩
    · exact w1.elim
theorem px_lc {bb : Bool} {N : List Str} {sc : Scope} {fn : Str → Bool} {elt iter : Expr} {ifs : List Expr} {scope : Scope} {own : List (Str × Nat)} {vs' : List Nat} {it : DenL} {g : PyData → Env → Option Env} {tt : DenB} {te : Den} (c : CF X N sc fn) (hi : PIX bb X W M tg iter it) (ok : blkC N sc scope own = true)
    (hvs : ∀ i ∈ own.map (·.2), M[i]? = some .sh) (hsub : ∀ i ∈ vs', i ∈ own.map (·.2)) (hg : ∀ b, PGX bb (bX X scope b) M tg vs' g) (ht : ∀ b, PXTs (bX X scope b) W0 M ifs tt) (he : ∀ b, PX (bX X scope b) W0 M .sh elt te)
    (hs : ∀ x, foldedSetIterable iter X.env x = pure x := by intro _; rfl) : PX X W M .fr (.ListComp elt [⟨tg, iter, ifs, 0⟩] scope pos) (dLC it g tt te (own.map (·.2))) := by
  obtain ⟨wi, pi, qi⟩ := hi
  obtain ⟨tgt, pg, qg⟩ := PGX.all hg
  obtain ⟨ttt, pt, qt⟩ := PXTs.all ht
  obtain ⟨tet, pe, qe⟩ := PX.all he
  refine ⟨_, pe_lc c.calm c.ndX pi (c.hN' ok) (fun s H C cl fp => pg ⟨s, H, C, cl, fp⟩) (fun s H C cl fp => pt ⟨s, H, C, cl, fp⟩) (fun s H C cl fp => pe ⟨s, H, C, cl, fp⟩) hs, fun G F ρ σ H Q S w => ?_⟩
  exact lc_read hvs qi (fun v σ H Q ⟨G, F, ρ, d, ρ', S, r, e, k⟩ => qg v σ H Q fun b => ⟨G, F, ρ, d, ρ', S, r, e, fun σ' S' k' o' => k σ' S' k' fun i hn => o' i fun z => hn (hsub i z)⟩)
    (fun σ H Q ⟨G, F, ρ, S, p⟩ => qt σ H Q fun b => ⟨G, F, ρ, S, p⟩) (fun σ H Q ⟨G, F, ρ, S, p⟩ => qe σ H Q fun b => ⟨G, F, ρ, S, p⟩) S w
/-- name = [..] on one line -/
theorem psx_setLC {bb : Bool} {N : List Str} {sc : Scope} {fn : Str → Bool} {i : Nat} {y : Str} {py spos : Pos} {elt iter : Expr} {ifs : List Expr} {scope : Scope} {own : List (Str × Nat)} {vs' : List Nat} {it : DenL} {g : PyData → Env → Option Env} {tt : DenB} {te : Den} (c : CF X N sc fn) (hy : X.N[i]? = some y) (hyl : X.env.scope.names.lookup y = some .local)
    (hsw : swapsWith (.ListComp elt [⟨tg, iter, ifs, 0⟩] scope pos) (some (.Name y py)) spos.line X.env = pure true) (hi : PIX bb X W M tg iter it) (ok : blkC N sc scope own = true)
    (hvs : ∀ i ∈ own.map (·.2), M[i]? = some .sh) (hsub : ∀ i ∈ vs', i ∈ own.map (·.2)) (hg : ∀ b, PGX bb (bX X scope b) M tg vs' g) (ht : ∀ b, PXTs (bX X scope b) W0 M ifs tt) (he : ∀ b, PX (bX X scope b) W0 M .sh elt te) {fs : Den → DenS} {kk : Kd}
    (hend : ∀ {t : TE} {f : Den}, (∀ G F ρ σ H Q, SR (kt X) M G F ρ σ H → Post X W M G F σ (f ρ) (fun d ρ' F' H' => ∀ v, ResK .fr (kt X) M G F' H' ρ' σ v d → Q v H') → t σ H Q) → ∀ G F ρ σ H D, SR (kt X) M G F ρ σ H → PostS X W M k G F σ (fs f ρ) D → tAsg t (gName i) D σ H)
    (hs : ∀ x, foldedSetIterable iter X.env x = pure x := by intro _; rfl) : PSX X W M k (.Assign [.Name y py] (.ListComp elt [⟨tg, iter, ifs, 0⟩] scope pos) spos) (fs (dLC it g tt te (own.map (·.2)))) := by
  obtain ⟨wi, pi, qi⟩ := hi
  obtain ⟨tgt, pg, qg⟩ := PGX.all hg
  obtain ⟨ttt, pt, qt⟩ := PXTs.all ht
  obtain ⟨tet, pe, qe⟩ := PX.all he
  refine ⟨_, ps_setLc c.calm c.ndX hy hyl hsw pi (c.hN' ok) (fun s H C cl fp => pg ⟨s, H, C, cl, fp⟩) (fun s H C cl fp => pt ⟨s, H, C, cl, fp⟩) (fun s H C cl fp => pe ⟨s, H, C, cl, fp⟩) hs, hend fun G F ρ σ H Q S w => ?_⟩
  exact lc_read hvs qi (fun v σ H Q ⟨G, F, ρ, d, ρ', S, r, e, k⟩ => qg v σ H Q fun b => ⟨G, F, ρ, d, ρ', S, r, e, fun σ' S' k' o' => k σ' S' k' fun i hn => o' i fun z => hn (hsub i z)⟩)
    (fun σ H Q ⟨G, F, ρ, S, p⟩ => qt σ H Q fun b => ⟨G, F, ρ, S, p⟩) (fun σ H Q ⟨G, F, ρ, S, p⟩ => qe σ H Q fun b => ⟨G, F, ρ, S, p⟩) S w
/-- the two ends of an assignment to a slot -/
theorem end_set {i : Nat} (hm : M[i]? = some .sh) {t : TE} {f : Den} (q : ∀ G F ρ σ H Q, SR (kt X) M G F ρ σ H → Post X W M G F σ (f ρ) (fun d ρ' F' H' => ∀ v, ResK .fr (kt X) M G F' H' ρ' σ v d → Q v H') → t σ H Q) : ∀ G F ρ σ H D, SR (kt X) M G F ρ σ H → PostS X W M k G F σ (dSet i f ρ) D → tAsg t (gName i) D σ H := by
  intro G F ρ σ H D S w
  have q' : ∀ G F ρ σ H Q, SR (kt X) M G F ρ σ H → Post X W M G F σ (f ρ) (fun d ρ' F' H' => ∀ v, ResK .sh (kt X) M G F' H' ρ' σ v d → Q v H') → t σ H Q := by
    intro G F ρ σ H Q S h
    refine q G F ρ σ H Q S ?_
    cases o : f ρ with
    | bad => rw [o] at h; exact h
    | exc e ρ' => rw [o] at h; exact h
    | ok d ρ' =>
      rw [o] at h
      intro F' H' s r v rk
      cases hm : isMut d with
      | false => exact h F' H' s r v (rk.1 hm)
      | true =>
        obtain ⟨a, rfl, g, fn, tp, ap⟩ := rk.2 hm
        obtain ⟨u, hu⟩ := tp.some
        refine h (upd F' a u) H' (s.tr (Sub.mk fn)) (r.step (Sub.mk fn) r.gh (r.fh.add hu) (fun i b ob => ⟨rfl, ?_⟩) fun b o hb => ?_) _ (tp.rep hu fn)
        · rw [upd_ne (show b ≠ a from fun e => ap i (e ▸ ob))]
          exact (r.own ob).2.1
        · rw [upd_ne (show b ≠ a from fun e => by subst e; rw [g] at hb; cases hb)]
          exact r.dj b o hb
  exact q' _ _ _ _ _ _ S ((PostS.bind w).imp fun d ρ1 F1 H1 _ S1 w1 v r => w1 F1 H1 _ Sub.rfl' (S1.put hm r) (Keep.set hm (by decide)))
theorem end_setO {i : Nat} (hm : M[i]? = some .ow) {t : TE} {f : Den} (q : ∀ G F ρ σ H Q, SR (kt X) M G F ρ σ H → Post X W M G F σ (f ρ) (fun d ρ' F' H' => ∀ v, ResK .fr (kt X) M G F' H' ρ' σ v d → Q v H') → t σ H Q) : ∀ G F ρ σ H D, SR (kt X) M G F ρ σ H → PostS X W M k G F σ (dSetO i f ρ) D → tAsg t (gName i) D σ H := by
  intro G F ρ σ H D S w
  exact q _ _ _ _ _ _ S ((PostS.bind w).imp fun d ρ1 F1 H1 _ S1 w1 v r => own_end hm S1 r w1)
end
end PD

set_option Elab.async false
set_option linter.all false
set_option maxRecDepth 100000
set_option maxHeartbeats 2000000
set_option autoImplicit false
namespace PD
open PySem L2 PySem.Spec

/-! ### what a def makes of its data -/
inductive FOut where
  | ok (d : PyData) (ps : List PyData)
  | exc (e : Exc) (ps : List PyData)
  | bad
abbrev FDen := List PyData → FOut
/-- the caller's own ones behind the call; the rest as handed in -/
def outs : List Md → List PyData → Env → Option (List PyData)
  | _, [], _ => some []
  | m :: ms, d :: ds, o :: ρ => (match m with | .pm => o | _ => some d).bind fun x => (outs ms ds ρ).map (x :: ·)
  | _, _ :: _, _ => none
def runBody (n : Nat) (ms : List Md) (body : DenS) : FDen := fun ds => if ds.length = ms.length then (match body (ds.map some ++ List.replicate (n - ds.length) none) with
  | .ok (.rt d) ρ => (match outs ms ds ρ with | some ps => .ok d ps | none => .bad)
  | .ok .nx ρ => (match outs ms ds ρ with | some ps => .ok .none ps | none => .bad)
  | .exc e ρ => (match outs ms ds ρ with | some ps => .exc e ps | none => .bad)
  | _ => .bad) else .bad
def ClsM (mg : Str → Option Value) : Exc → Value → Prop
  | .own c, v => mg c = some v
def spD (T : Kt) (mg : Str → Option Value) (k : Kd) (ms : List Md) (F : FDen) : Sp := fun vs H Q E => ∃ ds G F0, vs.length = ms.length ∧ SR T ms G F0 (ds.map some) (vs.map some) H ∧ ds.length = ms.length ∧ match F ds with
  | .ok d ps => ∀ F' H' v, Sub F0 F' → SR T ms G F' (ps.map some) (vs.map some) H' → ResK k T ms G F' H' (ps.map some) (vs.map some) v d → Q v H'
  | .exc e ps => ∀ F' H' c, Sub F0 F' → SR T ms G F' (ps.map some) (vs.map some) H' → ClsM mg e c → E c none H'
  | .bad => False
structure FnD (P : Program) (w : World) (K : PySem.W.Frag) (mg : Str → Option Value) (base : Heap) (n : Nat) (f : Addr) (fd : FuncData) (ps : List Str) (ms : List Md) (k : Kd) (F : FDen) : Prop where
  len : ms.length = ps.length
  run : ∀ (A : Around) (outer : List PySem.Env) (s : Shared) (H : Hp) (args : Args) (us : List Value) (vs : List V) (Q : VK) (E : XK), Room n A → A.guards = some [] → Env0 P w K mg base A outer s H → BindsTo s fd args (ps.zip us) → Vals vs us → spD ⟨K, P, w⟩ mg k ms F vs H Q E →
    codeAny (model P w) A (.call (.ref f) args) (CR (L2.CX P w) outer P w H s Q E) s
theorem FnD.mono {P : Program} {w : World} {K : PySem.W.Frag} {mg : Str → Option Value} {base : Heap} {m n : Nat} {f : Addr} {fd : FuncData} {ps : List Str} {ms : List Md} {k : Kd} {F : FDen} (h : FnD P w K mg base m f fd ps ms k F) (hmn : m ≤ n) : FnD P w K mg base n f fd ps ms k F :=
  ⟨h.len, fun A outer s H args us vs Q E hr => h.run A outer s H args us vs Q E (hr.mono hmn)⟩

/-! ### from a body -/
theorem outs_len : ∀ {ms : List Md} {ds : List PyData} {ρ : Env} {ps : List PyData}, outs ms ds ρ = some ps → ps.length = ds.length
  | _, [], _, _, h => by simp only [outs] at h; cases h; rfl
  | [], _ :: _, _, _, h => by simp only [outs] at h; cases h
  | _ :: _, _ :: _, [], _, h => by simp only [outs] at h; cases h
  | m :: ms, d :: ds, o :: ρ, ps, h => by
    simp only [outs] at h
    cases e : (match m with | .pm => o | _ => some d) with
    | none => rw [e] at h; cases h
    | some x =>
      rw [e] at h
      cases e2 : outs ms ds ρ with
      | none => rw [e2] at h; cases h
      | some qs => rw [e2] at h; cases h; simp [outs_len e2]
theorem outs_get : ∀ {ms : List Md} {ds : List PyData} {ρ : Env} {ps : List PyData} {i : Nat} {m : Md} {d : PyData}, outs ms ds ρ = some ps → ms[i]? = some m → ps[i]? = some d → (m = .pm ∧ ρ[i]? = some (some d)) ∨ (m ≠ .pm ∧ ds[i]? = some d)
  | _, [], _, _, i, m, d, h, _, hd => by simp only [outs] at h; cases h; simp at hd
  | [], _ :: _, _, _, i, m, d, h, _, hd => by simp only [outs] at h; cases h
  | _ :: _, _ :: _, [], _, i, m, d, h, _, hd => by simp only [outs] at h; cases h
  | m0 :: ms, d0 :: ds, o :: ρ, ps, i, m, d, h, hm, hd => by
    simp only [outs] at h
    cases e : (match m0 with | .pm => o | _ => some d0) with
    | none => rw [e] at h; cases h
    | some x =>
      rw [e] at h
      cases e2 : outs ms ds ρ with
      | none => rw [e2] at h; cases h
      | some qs =>
        rw [e2] at h; cases h
        cases i with
        | zero =>
          simp at hm hd
          subst hm hd
          cases m0 with
          | pm => exact .inl ⟨rfl, by simpa using e⟩
          | sh => exact .inr ⟨by decide, by simpa using e⟩
          | ow => exact .inr ⟨by decide, by simpa using e⟩
          | fz => exact .inr ⟨by decide, by simpa using e⟩
        | succ i =>
          simp at hm hd ⊢
          exact outs_get e2 hm hd
section
variable {P : Program} {w : World} {K : PySem.W.Frag} {mg : Str → Option Value} {base : Heap}
/-- at the end of a body the parameters stand as the caller sees them -/
theorem params_end {T : Kt} {ms : List Md} {M : List Md} {G F0 F' : Hp} {ds : List PyData} {vs : List V} {n : Nat} {ρ : Env} {σ : St} {H H' : Hp} {ps : List PyData} (hMp : M.take ms.length = ms) (S0 : SR T ms G F0 (ds.map some) (vs.map some) H) (hd : ds.length = ms.length) (hv : vs.length = ms.length)
    (s : Sub F0 F') (S : SR T M G F' ρ σ H') (kp : Keep M (vs.map some ++ List.replicate n none) σ) (ho : outs ms ds ρ = some ps) (hpm : ∀ m ∈ ms, m ≠ .ow) : SR T ms G F' (ps.map some) (vs.map some) H' := by
  have hl := outs_len ho
  have hM : ∀ i m, ms[i]? = some m → M[i]? = some m := fun i m h => by
    have h2 := h
    rw [← hMp] at h
    rw [List.getElem?_take] at h
    split at h
    · exact h
    · cases h
  refine ⟨S.gh, S.fh, by rw [List.length_map]; omega, by rw [List.length_map, List.length_map]; omega, fun i d m hd' hm => ?_, fun i j a oi oj => ?_, S.dj⟩
  · have hd2 : ps[i]? = some d := by
      rw [List.getElem?_map] at hd'
      cases q : ps[i]? with
      | none => rw [q] at hd'; cases hd'
      | some e => rw [q] at hd'; cases hd'; rfl
    have hi : i < vs.length := by rw [hv]; exact (List.getElem?_eq_some_iff.mp hm).1
    have ev : (vs.map some ++ List.replicate n (none : Option V))[i]? = (vs.map some)[i]? := List.getElem?_append_left (by simpa using hi)
    rcases outs_get ho hm hd2 with ⟨rfl, hr⟩ | ⟨hne, hr⟩
    · have q := S.sl i d .pm hr (hM i _ hm)
      rw [kp.2 i (hM i _ hm), ev] at q
      exact q
    · have q := S0.sl i d m (by rw [List.getElem?_map, hr]; rfl) hm
      cases m with
      | pm => exact absurd rfl hne
      | ow => exact absurd rfl (hpm .ow (List.mem_of_getElem? hm))
      | sh => obtain ⟨v, e, r⟩ := q; exact ⟨v, e, r.mono s⟩
      | fz => obtain ⟨a, xs, es, e, h1, h2, r⟩ := q; exact ⟨a, xs, es, e, sub_l s h1, h2, r.mono s⟩
  · have back : ∀ n', OwnAt ms (ps.map some) (vs.map some) n' a → OwnAt ms (ds.map some) (vs.map some) n' a := by
      rintro n' ⟨m, e, h1, h2, h3, h4⟩
      have hi : n' < ds.length := by rw [hd]; exact (List.getElem?_eq_some_iff.mp h1).1
      exact ⟨m, ds[n'], h1, h2, by rw [List.getElem?_map, List.getElem?_eq_getElem hi]; rfl, h4⟩
    exact S0.ap i j a (back i oi) (back j oj)
theorem start_sr {T : Kt} {ms M : List Md} {G F0 H : Hp} {ds : List PyData} {vs : List V} {N : List Str} (hMp : M.take ms.length = ms) (hMl : M.length = N.length) (S0 : SR T ms G F0 (ds.map some) (vs.map some) H) (hd : ds.length = ms.length) (hv : vs.length = ms.length) (hN : ms.length ≤ N.length) :
    SR T M G F0 (ds.map some ++ List.replicate (N.length - ds.length) none) (L2.start N vs) H := by
  have hM : ∀ i m, i < ms.length → M[i]? = some m → ms[i]? = some m := fun i m hi h => by
    rw [← hMp, List.getElem?_take, if_pos hi]; exact h
  have dl : ∀ i (d : PyData), (ds.map some ++ List.replicate (N.length - ds.length) (none : Option PyData))[i]? = some (some d) → i < ds.length ∧ (ds.map some)[i]? = some (some d) := fun i d h => by
    by_cases hi : i < ds.length
    · rw [List.getElem?_append_left (by simpa using hi)] at h
      exact ⟨hi, h⟩
    · rw [List.getElem?_append_right (by simpa using hi), List.getElem?_replicate] at h
      split at h <;> cases h
  have vl : ∀ i, i < vs.length → (L2.start N vs)[i]? = (vs.map some)[i]? := fun i hi => List.getElem?_append_left (by simpa using hi)
  refine ⟨S0.gh, S0.fh, by simp; omega, by unfold L2.start; simp; omega, fun i d m h hm => ?_, fun i j a oi oj => ?_, S0.dj⟩
  · obtain ⟨hi, h⟩ := dl i d h
    rw [vl i (by omega)]
    exact S0.sl i d m h (hM i m (by omega) hm)
  · have back : ∀ n', OwnAt M (ds.map some ++ List.replicate (N.length - ds.length) none) (L2.start N vs) n' a → OwnAt ms (ds.map some) (vs.map some) n' a := by
      rintro n' ⟨m, e, h1, h2, h3, h4⟩
      obtain ⟨hi, h3⟩ := dl n' e h3
      rw [vl n' (by omega)] at h4
      exact ⟨m, e, hM n' m (by omega) h1, h2, h3, h4⟩
    exact S0.ap i j a (back i oi) (back j oj)
/-- THE RULE: what a def's body makes of the data, the def does -/
theorem fnd_of {n : Nat} {f : Addr} {x qual : Str} {st : Stmt} {fd : FuncData} {N ps : List Str} {ms M : List Md} {k : Kd} {body : DenS} (Fn : Fun K x qual st f fd) (S : FnScope N ps (defScope st)) (hlen : ms.length = ps.length) (hMp : M.take ms.length = ms) (hMl : M.length = N.length) (hpm : ∀ m ∈ ms, m ≠ .ow)
    (hbody : ∀ (cdv : Value) (A : Around) (outer : List PySem.Env) (s : Shared) (H : Hp) (E : XK), Room n (A.deeper (PyProof.Rows.envOfC qual (defScope st) s.heap.objs.size f cdv)) → CF (cxOf (L2.CX P w) P w K mg base N qual (defScope st) f cdv A outer s H E) N (defScope st) (fun _ => true) →
      PSsX (cxOf (L2.CX P w) P w K mg base N qual (defScope st) f cdv A outer s H E) (fun c d _ H => E c d H) M k (defBody st) body) : FnD P w K mg base (n + 1) f fd ps ms k (runBody N.length ms body) := by
  obtain ⟨oc, od, kV, doc, pm, an, cdv, ct, osl, rfl, lk, hcd⟩ := Fn.ex
  refine ⟨hlen, fun A outer s H args us vs Q E hr hg e0 hb r hsp => ?_⟩
  obtain ⟨ds, G, F0, hvl, S0, hdl, hw⟩ := hsp
  have hl : vs.length = ps.length := hvl.trans hlen
  have inn : ∀ b o, base.get? b = some o → s.heap.get? b = some o := fun b o e => (e0.bs b o e).1
  have KX : K.In s.heap := e0.mod.kin.keeps inn
  have lim : s.heap.NoLimit := e0.mod.nolimit.keeps inn
  have kinds : ∀ y ∈ ps.zip us, (defScope st).names.lookup y.1 = some .local ∨ ((defScope st).names.lookup y.1 = some .cell ∧ ((cellsFrom (s.heap.objs.size + 1) (defScope st).names []).lookup y.1).isSome = true) := by
    rintro ⟨m, v⟩ hy
    exact (S.par m (List.of_mem_zip hy).1).imp id fun q => ⟨q, PySem.W.cellsFrom_some _ _ _ (.inl q)⟩
  refine codeAny_call_function hr.depth (KX _ _ lk) rfl S.co S.gen rfl (PySem.W.codeRec_of KX hcd) (hb _ _ _ _ ?_)
  refine wpAny_newFunctionEnv_cells S.kind kinds fun env he s1 xx => ?_
  subst he
  refine ⟨lim.keeps xx.toInCall.keep, codeAny_func ?_⟩
  have hroom : Room n (A.deeper (PyProof.Rows.envOfC qual (defScope st) s.heap.objs.size f cdv)) := hr.deeper _
  have cf : CF (cxOf (L2.CX P w) P w K mg base N qual (defScope st) f cdv A outer s H E) N (defScope st) (fun _ => true) := ⟨rfl, rfl, rfl, S.nd, rfl, hg, by have := hroom.un; show (A.deeper _).units + 200 < cLine; omega⟩
  obtain ⟨t, ht, hq⟩ := hbody cdv A outer s H E hroom cf
  have I : Inv (cxOf (L2.CX P w) P w K mg base N qual (defScope st) f cdv A outer s H E) [] (L2.start N vs) H s1 := inv_start S hr.hd e0 hl r xx
  have hNl : ms.length ≤ N.length := by
    have := congrArg List.length S.pre
    rw [List.length_take] at this
    omega
  have Sst := start_sr (N := N) hMp hMl S0 hdl hvl hNl
  have key : t { nx := fun _ H' => Q .non H', rt := Q } (L2.start N vs) H := by
    refine hq G F0 _ (L2.start N vs) H _ Sst ?_
    unfold runBody at hw
    rw [if_pos hdl] at hw
    have res : ∀ {F' H' : Hp} {ρ : Env} {σ' : St} {qs : List PyData} {v : V} {d : PyData}, SR (⟨K, P, w⟩ : Kt) M G F' ρ σ' H' → Keep M (L2.start N vs) σ' → outs ms ds ρ = some qs → ResK k (⟨K, P, w⟩ : Kt) M G F' H' ρ σ' v d → ResK k (⟨K, P, w⟩ : Kt) ms G F' H' (qs.map some) (vs.map some) v d := by
      intro F' H' ρ σ' qs v d S1 k1 ho rk
      cases k with
      | sh => exact rk
      | ow => exact rk
      | fr =>
        refine ⟨rk.1, fun hm => ?_⟩
        obtain ⟨a, e, g, fn, tp, ap⟩ := rk.2 hm
        refine ⟨a, e, g, fn, tp, fun i oi => ?_⟩
        obtain ⟨m, e2, h1, h2, h3, h4⟩ := oi
        have h3' : qs[i]? = some e2 := by
          rw [List.getElem?_map] at h3
          cases q : qs[i]? with
          | none => rw [q] at h3; cases h3
          | some z => rw [q] at h3; cases h3; rfl
        have hmi : M[i]? = some m := by
          have := h1
          rw [← hMp, List.getElem?_take] at this
          split at this
          · exact this
          · cases this
        rcases outs_get ho h1 h3' with ⟨rfl, hr'⟩ | ⟨hne, _⟩
        · refine ap i ⟨.pm, e2, hmi, rfl, hr', ?_⟩
          have hi : i < vs.length := by rw [hvl]; exact (List.getElem?_eq_some_iff.mp h1).1
          rw [k1.2 i hmi]
          show (vs.map some ++ List.replicate _ none)[i]? = _
          rw [List.getElem?_append_left (by simpa using hi)]
          exact h4
        · cases m with
          | pm => exact hne rfl
          | ow => exact hpm .ow (List.mem_of_getElem? h1) rfl
          | sh => cases h2
          | fz => cases h2
    cases o : body (ds.map some ++ List.replicate (N.length - ds.length) none) with
    | bad => rw [o] at hw; exact hw
    | exc e ρ =>
      rw [o] at hw
      dsimp only at hw
      cases ho : outs ms ds ρ with
      | none => rw [ho] at hw; exact hw.elim
      | some qs =>
        rw [ho] at hw
        intro F' H' σ' c s' S' k' hc
        refine hw F' H' c s' (params_end (n := N.length - vs.length) hMp S0 hdl hvl s' S' k' ho hpm) ?_
        cases e
        exact hc
    | ok fl ρ =>
      rw [o] at hw
      cases fl with
      | nx =>
        dsimp only at hw
        cases ho : outs ms ds ρ with
        | none => rw [ho] at hw; exact hw.elim
        | some qs =>
          rw [ho] at hw
          intro F' H' σ' s' S' k'
          exact hw F' H' .non s' (params_end (n := N.length - vs.length) hMp S0 hdl hvl s' S' k' ho hpm) (ResK.sc .non rfl)
      | rt d =>
        dsimp only at hw
        cases ho : outs ms ds ρ with
        | none => rw [ho] at hw; exact hw.elim
        | some qs =>
          rw [ho] at hw
          intro F' H' σ' v s' S' k' rk
          exact hw F' H' v s' (params_end (n := N.length - vs.length) hMp S0 hdl hvl s' S' k' ho hpm) (res S' k' ho rk)
      | bk => exact hw.elim
      | ct => exact hw.elim
  refine wpAny_mono (ht.run [] s1 (L2.start N vs) H _ I key) (fun fl s' hs => ?_) fun e s' hs => hs
  have fin : ∀ {σ' : St} {H' : Hp} {v : V} {u : Value}, Inv (cxOf (L2.CX P w) P w K mg base N qual (defScope st) f cdv A outer s H E) [] σ' H' s' → RelV v u → Q v H' → CE outer P w H s Q u s' :=
    fun {σ' H' v u} J rv q => ⟨v, H', J.os, J.bare, J.base, J.hok, rv, q⟩
  cases fl with
  | ret u => obtain ⟨v, σ', H', J, rv, q⟩ := hs; exact fin J rv q
  | next => obtain ⟨σ', H', J, q⟩ := hs; exact fin (v := V.non) (u := Value.none) J rfl q
  | brk => obtain ⟨_, _, _, q⟩ := hs; exact q.elim
  | cont => obtain ⟨_, _, _, q⟩ := hs; exact q.elim
end

/-! ### calls -/
section
variable {X : Cx} {W : WX} {M : List Md} {k : Kd} {pos : Pos}
theorem run_fnd {n : Nat} {f : Addr} {fd : FuncData} {ps : List Str} {ms : List Md} {F : FDen} {dvs : List V} {dus : List Value} {pins : List (Addr × Obj)} {σ : St} {H : Hp} {s : Shared} {Q : VK} {us : List Value} {vs : List V} (Fn : FnD X.prog X.w X.K X.mg X.base n f fd ps ms k F) (hr : Room n X.A) (hg : X.A.guards = some []) (hb : Binds X.K fd ps dus) (hd : Vals dvs dus) (tk : Takes X W)
    (I : Inv X pins σ H s) (r : Vals vs us) (h : spD (kt X) X.mg k ms F (vs ++ dvs) H Q (fun c d H' => W c d σ H')) : wpAny (model X.prog X.w) X.A (call (.ref f) us) (EP X pins σ Q) X.xe s := by
  have r2 : Vals (vs ++ dvs) (us ++ dus) := r.append hd
  have hl : (us ++ dus).length = ps.length := by
    obtain ⟨ds, G, F0, h1, _⟩ := h
    rw [← r2.length, h1, Fn.len]
  refine wpAny_call (codeAny_mono (Fn.run X.A X.stack s H ⟨us, []⟩ (us ++ dus) (vs ++ dvs) Q _ hr hg I.env0 (hb s us I.kIn hl) r2 h) fun r s' hq => ?_)
  cases r with
  | error e => exact tk e s' (XE.of_call I (fun _ _ _ z => z) hq)
  | ok fl =>
    cases fl with
    | ret u => exact I.after hq
    | next => exact hq.elim
    | brk => exact hq.elim
    | cont => exact hq.elim
/-- a def's worth, called -/
def tCallD (X : Cx) (W : WX) (k : Kd) (ms : List Md) (F : FDen) (dvs : List V) (t : TA) : TE := fun σ H Q => t σ H fun vs H1 => spD (kt X) X.mg k ms F (vs ++ dvs) H1 Q fun c d H' => W c d σ H'
theorem pe_calld {n : Nat} {f : Addr} {fd : FuncData} {ps : List Str} {ms : List Md} {F : FDen} {dvs : List V} {dus : List Value} {x : Str} {p : Pos} {e : Expr} {es : List Expr} {t : TA} (Fn : FnD X.prog X.w X.K X.mg X.base n f fd ps ms k F) (hr : Room n X.A) (hgd : X.A.guards = some []) (hg : Gl X x) (hm : X.mg x = some (.ref f)) (hk : PySem.W.keepIn X.K (.ref f) = true) (hb : Binds X.K fd ps dus) (hd : Vals dvs dus) (tk : Takes X W)
    (ha : PA X (e :: es) t) (hdb : (x == ("__debug__" : Str)) = false := by decide) (he : starEach (e :: es) X.env = (false, eval e X.env) :: starEach es X.env := by rfl) (hpl : (backTo pos (starEach es X.env)).any (·.1) = false := by rfl) :
    PE X (.Call (.Name x p) (e :: es) [] pos) (tCallD X W k ms F dvs t) := by
  refine ⟨fun pins s σ H Q I h => ?_⟩
  refine wpAny_Call_Name_kw (ld_glob I hg hm ?_ hdb)
  refine PySem.W.callWith_K (h₀ := X.base) I.ok.mod.kin hk (thn (ha.run pos pins s σ H _ I h) fun us s1 ⟨vs, H1, I1, r, q⟩ => ⟨I1.kIn, ?_⟩) he hpl
  exact run_fnd Fn hr hgd hb hd tk I1 r q
def dCall (F : FDen) (g : DenL) : Den := fun ρ => (g ρ).bind fun ds ρ => match F ds with
  | .ok d _ => .ok d ρ
  | .exc e _ => .exc e ρ
  | .bad => .bad
def restH (F H : Hp) (a : Option Addr) : Hp := fun b => if (F b).isSome = true ∨ a = some b then none else H b
theorem restH_none {F H : Hp} {a : Option Addr} {b : Addr} (h : F b = none) (ha : a ≠ some b) : restH F H a b = H b := by
  unfold restH
  rw [if_neg]
  rintro (q | q)
  · rw [h] at q; cases q
  · exact ha q
theorem restH_sub {F H : Hp} {a : Option Addr} : Sub (restH F H a) H := fun b o h => by
  unfold restH at h
  split at h
  · cases h
  · exact h
theorem restH_dj {F H : Hp} {a : Option Addr} : ∀ (b : Addr) (o : HO), restH F H a b = some o → F b = none := fun b o h => by
  unfold restH at h
  split at h
  · cases h
  · rename_i q
    cases e : F b with
    | none => rfl
    | some u => exact absurd (.inl (by rw [e]; rfl)) q
def allSh (ms : List Md) : Prop := ∀ m ∈ ms, m = .sh
/-- the callee's slots, all shared -/
theorem args_sr {T : Kt} {ms : List Md} {F H : Hp} {ds : List PyData} {vs : List V} (hms : allSh ms) (sf : Sub F H) (r : RepAll T F ds vs) (hl : ds.length = ms.length) : SR T ms (restH F H none) F (ds.map some) (vs.map some) H := by
  refine ⟨restH_sub, sf, by rw [List.length_map]; omega, by rw [List.length_map, List.length_map, r.length]; exact Nat.le_refl _, fun i d m hd hm => ?_, fun i j a oi _ => ?_, restH_dj⟩
  · obtain rfl := hms m (List.mem_of_getElem? hm)
    rw [List.getElem?_map] at hd
    cases q : ds[i]? with
    | none => rw [q] at hd; cases hd
    | some e =>
      rw [q] at hd; cases hd
      obtain ⟨v, hv, rv⟩ := r.get q
      exact ⟨v, by rw [List.getElem?_map, hv]; rfl, rv⟩
  · obtain ⟨m, d, h1, h2, _⟩ := oi
    obtain rfl := hms m (List.mem_of_getElem? h1)
    cases h2
/-- behind a call that changed nothing of ours -/
theorem SR.after {T : Kt} {G F F' H H' : Hp} {ρ : Env} {σ : St} (S : SR T M G F ρ σ H) (s : Sub F F') (g : Sub (restH F H none) H') (f : Sub F' H') (dj : ∀ (b : Addr) (o : HO), restH F H none b = some o → F' b = none) : SR T M G F' ρ σ H' := by
  have at_ : ∀ b o, F b = none → H b = some o → H' b = some o ∧ F' b = none := fun b o h1 h2 => by
    have : restH F H none b = some o := by rw [restH_none h1 (by simp)]; exact h2
    exact ⟨g b o this, dj b o this⟩
  refine S.step s (fun a o h => (at_ a o (S.dj a o h) (S.gh a o h)).1) f (fun i a oi => ?_) fun a o h => (at_ a o (S.dj a o h) (S.gh a o h)).2
  obtain ⟨_, hf, u, hu⟩ := S.own oi
  obtain ⟨h1, h2⟩ := at_ a u hf hu
  exact ⟨h1.trans hu.symm, h2⟩
theorem res_after {T : Kt} {ms : List Md} {G F F' H H' : Hp} {ρ : Env} {σ : St} {ps : List PyData} {vs : List V} {v : V} {d : PyData} (S : SR T M G F ρ σ H) (s : Sub F F') {a0 : Option Addr} (h0 : ∀ a, a0 = some a → F' a = none ∧ ∃ i, OwnAt ms (ps.map some) (vs.map some) i a) (rk : ResK k T ms (restH F H a0) F' H' (ps.map some) (vs.map some) v d) {ρ' : Env} (hρ : ∀ i a, OwnAt M ρ' σ i a → OwnAt M ρ σ i a) : ResK k T M G F' H' ρ' σ v d := by
  cases k with
  | sh => exact rk
  | ow => exact rk
  | fr =>
    refine ⟨rk.1, fun hm => ?_⟩
    obtain ⟨a, e, g, fn, tp, ap⟩ := rk.2 hm
    have hF : F a = none := s.none fn
    have ha : a0 ≠ some a := fun q => by
      obtain ⟨_, i, oi⟩ := h0 a q
      exact ap i oi
    have hH : H a = none := by rw [restH_none hF ha] at g; exact g
    refine ⟨a, e, S.gh.none hH, fn, tp, fun i oi => ?_⟩
    obtain ⟨_, _, u, hu⟩ := S.own (hρ i a oi)
    rw [hH] at hu; cases hu
theorem px_call {n : Nat} {f : Addr} {fd : FuncData} {ps : List Str} {ms : List Md} {F : FDen} {x : Str} {p : Pos} {e : Expr} {es : List Expr} {g : DenL} (Fn : FnD X.prog X.w X.K X.mg X.base n f fd ps ms k F) (hr : Room n X.A) (hgd : X.A.guards = some []) (hg : Gl X x) (hm : X.mg x = some (.ref f)) (hk : PySem.W.keepIn X.K (.ref f) = true) (hb : Binds X.K fd ps []) (tk : Takes X W) (hms : allSh ms) (hml : ms.length = (e :: es).length)
    (ha : PXA X W M (e :: es) g) (hgl : ∀ ρ ds ρ', g ρ = .ok ds ρ' → ds.length = (e :: es).length) (hdb : (x == ("__debug__" : Str)) = false := by decide) (he : starEach (e :: es) X.env = (false, eval e X.env) :: starEach es X.env := by rfl) (hpl : (backTo pos (starEach es X.env)).any (·.1) = false := by rfl) :
    PX X W M k (.Call (.Name x p) (e :: es) [] pos) (dCall F g) := by
  obtain ⟨t, pt, q⟩ := ha
  refine ⟨_, pe_calld Fn hr hgd hg hm hk hb .nil tk pt hdb he hpl, fun G F0 ρ σ H Q S w => ?_⟩
  unfold dCall at w
  cases o : g ρ with
  | bad => rw [o] at w; exact w.elim
  | exc e' ρ' => rw [o] at w; exact q _ _ _ _ _ _ S (by rw [o]; exact w)
  | ok ds ρ1 =>
    rw [o] at w
    have hl := (hgl _ _ _ o).trans hml.symm
    refine q _ _ _ _ _ _ S ?_
    rw [o]
    intro F1 H1 s1 S1 vs rv
    rw [List.append_nil]
    refine ⟨ds, restH F1 H1 none, F1, by rw [← rv.length]; exact hl, args_sr hms S1.fh rv hl, hl, ?_⟩
    have w : Post X W M G F0 σ (match F ds with | .ok d _ => Out.ok d ρ1 | .exc e _ => .exc e ρ1 | .bad => .bad) _ := w
    cases hF : F ds with
    | bad => rw [hF] at w; exact w
    | exc e' qs =>
      rw [hF] at w
      intro F' H' c s' S' hc
      refine w F' H' c (s1.tr s') (S1.after s' S'.gh S'.fh S'.dj) ?_
      cases e'
      exact hc
    | ok d qs =>
      rw [hF] at w
      intro F' H' v s' S' rk
      exact w F' H' (s1.tr s') (S1.after s' S'.gh S'.fh S'.dj) v (res_after (a0 := none) S1 s' (fun a z => by cases z) rk fun i a z => z)
end
end PD

set_option Elab.async false
set_option linter.all false
set_option maxRecDepth 100000
set_option maxHeartbeats 2000000
set_option autoImplicit false
namespace PD
open PySem L2 PySem.Spec
section
variable {X : Cx} {W : WX} {M : List Md} {k : Kd} {pos : Pos}

/-! ### a call whose first argument is an own list: the callee may change it -/
def dCallP (F : FDen) (j : Nat) (g : DenL) : Den := fun ρ => (dVar j ρ).bind fun _ ρ => (g ρ).bind fun ds ρ => match ρ[j]? with
  | some (some d0) => (match F (d0 :: ds) with
    | .ok d (d1 :: _) => .ok d (ρ.set j (some d1))
    | .exc e (d1 :: _) => .exc e (ρ.set j (some d1))
    | _ => .bad)
  | _ => .bad
theorem own_after {T : Kt} {G F F' H H' : Hp} {ρ : Env} {σ : St} {j : Nat} {m : Md} {d0 d1 : PyData} {a : Addr} (S : SR T M G F ρ σ H) (hm : M[j]? = some m) (ho : m.own = true) (hd : ρ[j]? = some (some d0)) (hs : σ[j]? = some (some (.ref a))) (s : Sub F F') (g : Sub (restH F H (some a)) H') (f : Sub F' H') (dj : ∀ (b : Addr) (o : HO), restH F H (some a) b = some o → F' b = none)
    (hF' : F' a = none) (t : Top T H' F' a d1) : SR T M G F' (ρ.set j (some d1)) σ H' := by
  have oj : OwnAt M ρ σ j a := ⟨m, d0, hm, ho, hd, hs⟩
  obtain ⟨hGa, hFa, _⟩ := S.own oj
  have at_ : ∀ b o, F b = none → b ≠ a → H b = some o → H' b = some o ∧ F' b = none := fun b o h1 hb h2 => by
    have : restH F H (some a) b = some o := by rw [restH_none h1 (fun e => hb (Option.some.inj e).symm)]; exact h2
    exact ⟨g b o this, dj b o this⟩
  have gne : ∀ b o, G b = some o → b ≠ a := fun b o h e => by subst e; rw [hGa] at h; cases h
  refine ⟨fun b o h => (at_ b o (S.dj b o h) (gne b o h) (S.gh b o h)).1, f, by rw [List.length_set]; exact S.lm, by rw [List.length_set]; exact S.ls, fun i e mi hi hmi => ?_, fun i l b oi ol => ?_, fun b o h => (at_ b o (S.dj b o h) (gne b o h) (S.gh b o h)).2⟩
  · by_cases q : j = i
    · subst q
      rw [hm] at hmi; cases hmi
      have hl : j < ρ.length := (List.getElem?_eq_some_iff.mp hd).1
      rw [List.getElem?_set_self hl] at hi; cases hi
      cases m with
      | sh => cases ho
      | fz => cases ho
      | ow => exact ⟨a, hs, hGa, hF', t⟩
      | pm => exact ⟨a, hs, hGa, hF', t⟩
    · rw [List.getElem?_set_ne q] at hi
      have z := S.sl i e mi hi hmi
      have own : mi.own = true → ∀ b, σ[i]? = some (some (.ref b)) → Top T H F b e → G b = none → F b = none → G b = none ∧ F' b = none ∧ Top T H' F' b e := fun hmo b hb tb g1 f1 => by
        have hne : b ≠ a := fun h => q (S.ap j i a oj (h ▸ ⟨mi, e, hmi, hmo, hi, hb⟩))
        obtain ⟨u, hu⟩ := tb.some
        obtain ⟨h1, h2⟩ := at_ b u f1 hne hu
        exact ⟨g1, h2, tb.mono (h1.trans hu.symm) s⟩
      cases mi with
      | sh => obtain ⟨v, e1, r⟩ := z; exact ⟨v, e1, r.mono s⟩
      | fz => obtain ⟨b, xs, es, e1, h1, h2, r⟩ := z; exact ⟨b, xs, es, e1, sub_l s h1, h2, r.mono s⟩
      | ow =>
        obtain ⟨b, e1, g1, f1, tb⟩ := z
        obtain ⟨h1, h2, h3⟩ := own rfl b e1 tb g1 f1
        exact ⟨b, e1, h1, h2, h3⟩
      | pm =>
        obtain ⟨b, e1, g1, f1, tb⟩ := z
        obtain ⟨h1, h2, h3⟩ := own rfl b e1 tb g1 f1
        exact ⟨b, e1, h1, h2, h3⟩
  · have back : ∀ n, OwnAt M (ρ.set j (some d1)) σ n b → OwnAt M ρ σ n b := by
      rintro n ⟨mn, e, h1, h2, h3, h4⟩
      by_cases q : j = n
      · subst q; exact ⟨mn, d0, h1, h2, hd, h4⟩
      · rw [List.getElem?_set_ne q] at h3; exact ⟨mn, e, h1, h2, h3, h4⟩
    exact S.ap i l b (back i oi) (back l ol)
theorem args_srP {T : Kt} {ms : List Md} {F H : Hp} {d0 : PyData} {ds : List PyData} {a : Addr} {vs : List V} (hms : allSh ms) (sf : Sub F H) (hF : F a = none) (t : Top T H F a d0) (r : RepAll T F ds vs) (hl : ds.length = ms.length) : SR T (.pm :: ms) (restH F H (some a)) F ((d0 :: ds).map some) (((V.ref a) :: vs).map some) H := by
  have A := args_sr hms sf r hl
  refine ⟨restH_sub, sf, by simp; omega, by simp [r.length], fun i d m hd hm => ?_, fun i j b oi oj => ?_, restH_dj⟩
  · cases i with
    | zero =>
      simp at hd hm
      subst hd hm
      refine ⟨a, rfl, ?_, hF, t⟩
      unfold restH
      rw [if_pos (.inr rfl)]
    | succ i =>
      simp only [List.map_cons, List.getElem?_cons_succ] at hd hm ⊢
      obtain rfl := hms m (List.mem_of_getElem? hm)
      exact A.sl i d .sh hd hm
  · have z : ∀ n, OwnAt (.pm :: ms) ((d0 :: ds).map some) (((V.ref a) :: vs).map some) n b → n = 0 := by
      rintro n ⟨m, d, h1, h2, _⟩
      cases n with
      | zero => rfl
      | succ n =>
        simp only [List.getElem?_cons_succ] at h1
        obtain rfl := hms m (List.mem_of_getElem? h1)
        cases h2
    rw [z i oi, z j oj]
theorem px_callP {n : Nat} {f : Addr} {fd : FuncData} {ps : List Str} {ms : List Md} {F : FDen} {x y : Str} {p py : Pos} {es : List Expr} {g : DenL} {j : Nat} {m : Md} (Fn : FnD X.prog X.w X.K X.mg X.base n f fd ps (.pm :: ms) k F) (hr : Room n X.A) (hgd : X.A.guards = some []) (hg : Gl X x) (hmg : X.mg x = some (.ref f)) (hk : PySem.W.keepIn X.K (.ref f) = true) (hb : Binds X.K fd ps []) (tk : Takes X W) (hms : allSh ms) (hml : ms.length = es.length)
    (hj : X.N[j]? = some y) (hv : Vis X.env.scope y) (hm : M[j]? = some m) (ho : m.own = true) (ha : PXA X W M es g) (hgl : ∀ ρ ds ρ', g ρ = .ok ds ρ' → ds.length = es.length) (hd : (y == ("__debug__" : Str)) = false := by decide) (hcd : (y == ("__classdict__" : Str)) = false := by decide) (hdb : (x == ("__debug__" : Str)) = false := by decide)
    (he : starEach (.Name y py :: es) X.env = (false, eval (.Name y py) X.env) :: starEach es X.env := by rfl) (hpl : (backTo pos (starEach es X.env)).any (·.1) = false := by rfl) :
    PX X W M k (.Call (.Name x p) (.Name y py :: es) [] pos) (dCallP F j g) := by
  obtain ⟨t, pt, q⟩ := ha
  refine ⟨_, pe_calld Fn hr hgd hg hmg hk hb .nil tk (pa_cons (pe_var hj hv hd hcd) pt he) hdb he hpl, fun G F0 ρ σ H Q S w => ?_⟩
  unfold dCallP dVar at w
  split at w
  · rename_i dd hdd
    obtain ⟨a, e1, _, _, _⟩ := S.top hm ho hdd
    refine ⟨_, e1, ?_⟩
    have w : Post X W M G F0 σ ((g ρ).bind _) _ := w
    cases o : g ρ with
    | bad => rw [o] at w; exact w.elim
    | exc e' ρ' => rw [o] at w; exact q _ _ _ _ _ _ S (by rw [o]; exact w)
    | ok ds ρ1 =>
      rw [o] at w
      have hl := (hgl _ _ _ o).trans hml.symm
      refine q _ _ _ _ _ _ S ?_
      rw [o]
      intro F1 H1 s1 S1 vs rv
      rw [List.append_nil]
      dsimp only [Out.bind_ok] at w
      split at w
      · rename_i d0 h0
        obtain ⟨a', e2, _, fa, ta⟩ := S1.top hm ho h0
        rw [e1] at e2; cases e2
        refine ⟨d0 :: ds, restH F1 H1 (some a), F1, by simp only [List.length_cons]; rw [← rv.length, hl], args_srP hms S1.fh fa ta rv hl, by simp only [List.length_cons]; rw [hl], ?_⟩
        have tail : ∀ {F' H' : Hp} {d1 : PyData} {qs : List PyData}, Sub F1 F' → SR (kt X) (.pm :: ms) (restH F1 H1 (some a)) F' ((d1 :: qs).map some) (((V.ref a) :: vs).map some) H' → SR (kt X) M G F' (ρ1.set j (some d1)) σ H' ∧ F' a = none := by
          intro F' H' d1 qs s' S'
          obtain ⟨b, e3, _, f3, t3⟩ := S'.sl 0 d1 .pm rfl rfl
          cases e3
          exact ⟨own_after S1 hm ho h0 e1 s' S'.gh S'.fh S'.dj f3 t3, f3⟩
        cases hF : F (d0 :: ds) with
        | bad => rw [hF] at w; exact w
        | exc e' qs =>
          rw [hF] at w
          cases qs with
          | nil => exact w.elim
          | cons d1 qs =>
            intro F' H' c s' S' hc
            refine w F' H' c (s1.tr s') (tail s' S').1 ?_
            cases e'
            exact hc
        | ok d qs =>
          rw [hF] at w
          cases qs with
          | nil => exact w.elim
          | cons d1 qs =>
            intro F' H' v s' S' rk
            obtain ⟨S2, fa'⟩ := tail s' S'
            refine w F' H' (s1.tr s') S2 v (res_after (a0 := some a) S1 s' (fun b z => ?_) rk fun i b oi => ?_)
            · cases z
              exact ⟨fa', 0, .pm, d1, rfl, rfl, rfl, rfl⟩
            · obtain ⟨mn, e, h1, h2, h3, h4⟩ := oi
              by_cases z : j = i
              · subst z; exact ⟨mn, d0, h1, h2, h0, h4⟩
              · rw [List.getElem?_set_ne z] at h3; exact ⟨mn, e, h1, h2, h3, h4⟩
      · exact w.elim
  · exact w.elim
/-- xs[i] = e, xs an own list -/
def dStL (j : Nat) (fv fi : Den) : DenS := fun ρ => (fv ρ).bind fun v ρ => (dVar j ρ).bind fun _ ρ => (fi ρ).bind fun i ρ => match ρ[j]?, i with
  | some (some (.list xs)), .int z => (match ixN xs.length z with
    | some n => .ok .nx (ρ.set j (some (.list (xs.set n v))))
    | none => .bad)
  | _, _ => .bad
theorem psx_stL {j : Nat} {y : Str} {m : Md} {i e : Expr} {fi fe : Den} {py p2 : Pos} (hj : X.N[j]? = some y) (hv : Vis X.env.scope y) (hm : M[j]? = some m) (hi : PX X W M .ow i fi) (he : PX X W M .sh e fe) (ho : m.own = true := by rfl) (hd : (y == ("__debug__" : Str)) = false := by decide) (hcd : (y == ("__classdict__" : Str)) = false := by decide)
    (ha : ∀ v, assign (.Subscript (.Name y py) i p2) X.env v = (do
      let ov ← holding [v] (eval (.Name y py) X.env)
      let iv ← holding [v, ov] (eval i X.env)
      standAt p2
      holding [v, ov, iv] (setItem ov iv v)
      release [v, ov, iv] []) := by intro _; rfl)
    (hs : swapsWithSole [.Subscript (.Name y py) i p2] e pos.line X.env = pure false := by rfl) (hw : swappedStores [.Subscript (.Name y py) i p2] e X.env = pure none := by rfl)
    (h1 : (assignEach [.Subscript (.Name y py) i p2] X.env).map (·.2) = [assign (.Subscript (.Name y py) i p2) X.env] := by rfl) : PSX X W M k (.Assign [.Subscript (.Name y py) i p2] e pos) (dStL j fe fi) := by
  obtain ⟨t, p, q⟩ := he
  obtain ⟨u, p', q'⟩ := hi
  refine ⟨_, ps_asg p (pg_sub (pe_var hj hv hd hcd) p' set_list ha) hs hw h1, fun G F ρ σ H D S w => q _ _ _ _ _ _ S ((PostS.bind w).imp fun v ρ1 F1 H1 _ S1 w1 x rx => ?_)⟩
  unfold dVar at w1
  split at w1
  · rename_i d0 h0
    obtain ⟨a, e1, _, _, _⟩ := S1.top hm ho h0
    refine ⟨_, e1, ?_⟩
    have w1 : PostS X W M k G F1 σ ((fi ρ1).bind _) D := w1
    refine q' _ _ _ _ _ _ S1 ((PostS.bind w1).imp fun z ρ2 F2 H2 s2 S2 w2 y2 ry => ?_)
    split at w2
    · rename_i xs n hx
      split at w2
      · rename_i n' hn
        obtain ⟨a', e2, _, _, t1⟩ := S2.top hm ho hx
        rw [e1] at e2; cases e2
        obtain ⟨ys, h2, r2⟩ := top_lst t1
        refine ⟨a, ys, n, n', rfl, brw_int ry, h2, by rw [← r2.length]; exact hn, ?_⟩
        exact w2 F2 _ σ Sub.rfl' (S2.write hm ho hx e1 (.lst upd_same (r2.set (Rep.mono s2 rx) _))) Keep.rfl'
      · exact w2.elim
    · exact w2.elim
  · exact w1.elim
/-- xs.extend(e) -/
def rExtendR : V → List V → Hp → VK → Prop := fun x vs H Q => ∃ l b xs zs, x = .ref l ∧ vs = [.ref b] ∧ H l = some (.lst xs) ∧ Rd H b (.lst zs) ∧ xs.length + zs.length ≤ sizeLine ∧ Q .non (upd H l (.lst (xs ++ zs)))
theorem mt_extendR : MtM X "list.extend" rExtendR := by
  intro pins s σ H x vs v us Q I rx rv h
  obtain ⟨l, b, xs, zs, rfl, rfl, hH, hB, hz, q⟩ := h
  cases rx
  obtain ⟨u, rfl, ru⟩ := rv.one
  cases ru
  obtain ⟨z, its, n, r, hl, e⟩ := I.lstM hH
  obtain ⟨z2, its2, n2, r2, e2⟩ := hB.ok I.hok
  have hl2 := r2.length
  have hsz : its.toArray.size + its2.toArray.size ≤ sizeLine := by rw [List.size_toArray, List.size_toArray]; omega
  refine call_meets F.slot_list_extend ⟨_, e, rfl⟩ F.entry_list_extend (F.args_list_extend_2 _ _)
    (AutoSeq1.list_extend_list_list_0 l its.toArray n b its2.toArray n2 (by rw [notLongL hsz, Bool.and_false]; exact Bool.false_ne_true) (by rw [List.size_toArray]; omega) (by omega)) ⟨e, e2, .non, _, I.lset (its' := its ++ its2) hH e (by simp) (r.append r2) (by rw [List.length_append]; omega), rfl, q⟩
theorem mt_extendT : MtM X "list.extend" (rExtendT X.K) := by
  intro pins s σ H x vs v us Q I rx rv h
  obtain ⟨l, b, xs, zs, rfl, rfl, hH, hB, hz, q⟩ := h
  cases rx
  obtain ⟨u, rfl, ru⟩ := rv.one
  cases ru
  obtain ⟨z, its, n, r, hl, e⟩ := I.lstM hH
  obtain ⟨its2, r2, ⟨⟨oc, od, dt, sl⟩, e2, hc, n2, hdt⟩, hz2⟩ := I.tuple hB
  simp only at hc hdt
  subst hc hdt
  have hl2 := r2.length
  have hsz : its.toArray.size + its2.toArray.size ≤ sizeLine := by rw [List.size_toArray, List.size_toArray]; omega
  have hlong : ¬ (!its.toArray.isEmpty && Builtin.List.listTooLong (its.toArray.size + its2.toArray.size)) = true := by
    rw [notLongL hsz, Bool.and_false]
    exact Bool.false_ne_true
  refine call_meets F.slot_list_extend ⟨_, e, rfl⟩ F.entry_list_extend (F.args_list_extend_2 _ _)
    (ext_tup l its.toArray n b its2.toArray n2 od sl hlong (by rw [List.size_toArray]; omega) (by omega)) ⟨e, e2, ?_⟩
  refine ⟨.non, _, I.lset (its' := its ++ its2) hH e (by simp) (r.append r2) ?_, rfl, q⟩
  rw [List.length_append]
  omega
theorem MtM.or {id : String} {r r' : V → List V → Hp → VK → Prop} (h : MtM X id r) (h' : MtM X id r') : MtM X id (fun x xs H Q => r x xs H Q ∨ r' x xs H Q) := by
  intro pins s σ H x xs v us Q I rx rs q
  rcases q with q | q
  · exact h pins s σ H x xs v us Q I rx rs q
  · exact h' pins s σ H x xs v us Q I rx rs q
theorem psx_ext {i : Nat} {x : Str} {m : Md} {e : Expr} {f : Den} {p1 p2 p3 : Pos} (hi : X.N[i]? = some x) (hv : Vis X.env.scope x) (hm : M[i]? = some m) (h : PX X W M .sh e f) (ho : m.own = true := by rfl) (hd : (x == ("__debug__" : Str)) = false := by decide) (hcd : (x == ("__classdict__" : Str)) = false := by decide)
    (hst : starEach [e] X.env = (false, eval e X.env) :: starEach [] X.env := by rfl) (hbase : attributeBase (.Name x p1) "extend" X.env (eval (.Name x p1) X.env) = eval (.Name x p1) X.env := by rfl)
    (hfew : ((backTo p3 (starEach [e] X.env)).all (fun x => !x.1) && (backToKw p3 (keywordEach [] X.env)).all (fun x => x.1.isSome) && decide ([e].length + ([] : List Keyword).length + (if ([] : List Keyword).isEmpty then 0 else 1) < 30)) = true := by rfl)
    (hline : (p2.endLine == p3.line) = true := by rfl) (hplain : (backTo p3 (starEach [] X.env)).any (·.1) = false := by rfl)
    (hs : swapsWith (.Call (.Attribute (.Name x p1) "extend" p2) [e] [] p3) none pos.line X.env = pure false := by rfl) : PSX X W M k (.Expr (.Call (.Attribute (.Name x p1) "extend" p2) [e] [] p3) pos) (dExt i f) := by
  obtain ⟨t, p, q⟩ := h
  refine ⟨_, ps_expr (pe_bm PySem.F.plainAttrs_list PySem.F.slot_list_extend PySem.F.type_list_extend (MtM.or mt_extendR mt_extendT) (pe_var hi hv hd hcd) (pa_cons p pa_nil hst) hbase hfew hline hst hplain) hs, fun G F ρ σ H D S w => ?_⟩
  refine meth_run (kk := .sh) hm ho q S w fun F1 H1 ρ1 v d a S1 r e1 w1 => ?_
  split at w1
  · rename_i xs ys hx
    split at w1
    · rename_i hz
      obtain ⟨a', e2, _, _, t1⟩ := S1.top hm ho hx
      rw [e1] at e2; cases e2
      obtain ⟨us, h1, r1⟩ := top_lst t1
      cases r with
      | lst hb rb =>
        rename_i b zs
        refine .inl ⟨a, b, _, _, rfl, rfl, h1, sub_r S1.fh hb, by rw [← r1.length, ← rb.length]; exact hz, ?_⟩
        exact w1 F1 _ σ Sub.rfl' (S1.write hm ho hx e1 (.lst upd_same (r1.append rb))) Keep.rfl'
    · exact w1.elim
  · rename_i xs ys hx
    split at w1
    · rename_i hz
      obtain ⟨a', e2, _, _, t1⟩ := S1.top hm ho hx
      rw [e1] at e2; cases e2
      obtain ⟨us, h1, r1⟩ := top_lst t1
      cases r with
      | tup hb rb =>
        rename_i b zs
        refine .inr ⟨a, b, _, _, rfl, rfl, h1, tupC_sq (sub_c S1.fh hb), by rw [← r1.length, ← rb.length]; exact hz, ?_⟩
        exact w1 F1 _ σ Sub.rfl' (S1.write hm ho hx e1 (.lst upd_same (r1.append rb))) Keep.rfl'
    · exact w1.elim
  · exact w1.elim
end
end PD

set_option Elab.async false
set_option linter.all false
set_option maxRecDepth 100000
set_option maxHeartbeats 2000000
set_option autoImplicit false
namespace PD
open PySem L2 PySem.Spec
section
variable {X : Cx} {W : WX} {M : List Md} {k : Kd} {pos : Pos}

/-! ### isinstance against built-in types -/
def tyN : PyData → String
  | .none => "NoneType"
  | .bool _ => "bool"
  | .int _ => "int"
  | .str _ => "str"
  | .list _ => "list"
  | .tuple _ => "tuple"
  | .dict _ => "dict"
/-- the types asked for -/
inductive Ty where
  | int | bool | str | tuple | list | dict
def Ty.nm : Ty → String
  | .int => "int"
  | .bool => "bool"
  | .str => "str"
  | .tuple => "tuple"
  | .list => "list"
  | .dict => "dict"
def isT : Ty → PyData → Bool
  | .int, .int _ => true
  | .int, .bool _ => true
  | .bool, .bool _ => true
  | .str, .str _ => true
  | .tuple, .tuple _ => true
  | .list, .list _ => true
  | .dict, .dict _ => true
  | _, _ => false
theorem kit_isT : ∀ (t : Ty) (d : PyData), kitB (tyN d) t.nm = some (isT t d)
  | t, .none => by cases t <;> decide +kernel
  | t, .bool b => by cases t <;> (simp only [tyN, Ty.nm, isT]; decide +kernel)
  | t, .int b => by cases t <;> (simp only [tyN, Ty.nm, isT]; decide +kernel)
  | t, .str b => by cases t <;> (simp only [tyN, Ty.nm, isT]; decide +kernel)
  | t, .list b => by cases t <;> (simp only [tyN, Ty.nm, isT]; decide +kernel)
  | t, .tuple b => by cases t <;> (simp only [tyN, Ty.nm, isT]; decide +kernel)
  | t, .dict b => by cases t <;> (simp only [tyN, Ty.nm, isT]; decide +kernel)
theorem kit_rep {pins : List (Addr × Obj)} {σ : St} {H : Hp} {s : Shared} (I : Inv X pins σ H s) {d : PyData} {v : V} {u : Value} (r : Rep (kt X) H d v) (ru : RelV v u) : ∃ P : Heap → Prop, PySem.W.KitX X.K u (.type (tyN d)) P ∧ P s.heap ∧ u ≠ .builtin "__main__.__loader__#opaque" := by
  cases r with
  | non => cases (show u = Value.none from ru); exact ⟨_, PySem.W.kitx_none, True.intro, fun z => nomatch z⟩
  | bl y => cases (show u = Value.bool y from ru); exact ⟨_, PySem.W.kitx_bool, True.intro, fun z => nomatch z⟩
  | int i => obtain ⟨t, q⟩ := (show ∃ t, u = Value.int i t from ru); cases q; exact ⟨_, PySem.W.kitx_int, True.intro, fun z => nomatch z⟩
  | str y => obtain ⟨t, q⟩ := (show ∃ t, u = Value.str y t from ru); cases q; exact ⟨_, PySem.W.kitx_str, True.intro, fun z => nomatch z⟩
  | lst h a =>
    rename_i ad xs ds
    cases (show u = Value.ref ad from ru)
    obtain ⟨_, _, n, _, h1⟩ := h.ok I.hok
    exact ⟨_, PySem.W.kitx_list, ⟨_, h1, rfl⟩, fun z => nomatch z⟩
  | tup h a =>
    rename_i ad xs ds
    cases (show u = Value.ref ad from ru)
    obtain ⟨its, rv, ⟨o, ho, hc, n, hd⟩, _⟩ := I.tuple (tupC_sq h)
    exact ⟨_, PySem.W.kitx_tuple, ⟨o, ho, hc⟩, fun z => nomatch z⟩
  | dk h a =>
    rename_i ad kvs ds
    cases (show u = Value.ref ad from ru)
    obtain ⟨_, _, vs, _, o, es, ep, h1, h2, _⟩ := (show ObjOk X.prog X.w H s.heap ad (.dK kvs) from I.hok ad _ h)
    exact ⟨_, PySem.W.kitx_dict, ⟨o, h1, h2.1⟩, fun z => nomatch z⟩
  | dn h h2 =>
    rename_i ad o es ep ents ks vs xs a1 a2 a3 a4 a5 a6 a7 a8 a9 a10 a11
    cases (show u = Value.ref ad from ru)
    exact ⟨_, PySem.W.kitx_dict, ⟨o, (I.hok ad _ h).1, h2.1⟩, fun z => nomatch z⟩
def rIs1 (T : Kt) (t : Ty) : List V → Hp → VK → Prop := fun vs H Q => ∃ x d, vs = [x, .ty t.nm] ∧ Rep T H d x ∧ Q (.bl (isT t d)) H
theorem call_is1 (t : Ty) : CallR X (.builtin "isinstance") (rIs1 (kt X) t) := by
  intro pins s σ H xs us Q I r h
  obtain ⟨x, d, rfl, rd, q⟩ := h
  obtain ⟨u1, u2, rfl, r1, r2⟩ := vals2 r
  cases (show u2 = Value.type t.nm from r2)
  obtain ⟨P, Z, p, hx⟩ := kit_rep I rd r1
  exact PySem.W.kia_one Z I.kIn p (kit_ty (kit_isT t d)) hx fun tk => ⟨.bl _, H, I.tok tk, rfl, q⟩
def rIs2 (T : Kt) (t t' : Ty) : List V → Hp → VK → Prop := fun vs H Q => ∃ x tp d, vs = [x, .ref tp] ∧ H tp = some (.tup [.ty t.nm, .ty t'.nm]) ∧ Rep T H d x ∧ Q (.bl (isT t d || isT t' d)) H
theorem call_is2 (t t' : Ty) : CallR X (.builtin "isinstance") (rIs2 (kt X) t t') := by
  intro pins s σ H xs us Q I r h
  obtain ⟨x, tp, d, rfl, hT, rd, q⟩ := h
  obtain ⟨u1, u2, rfl, r1, r2⟩ := vals2 r
  cases (show u2 = Value.ref tp from r2)
  obtain ⟨P, Z, p, hx⟩ := kit_rep I rd r1
  obtain ⟨_, its, rv, o, h1, h2, n, h3⟩ := (show ObjOk X.prog X.w H s.heap tp (.tup [.ty t.nm, .ty t'.nm]) from I.hok tp _ hT)
  have e3 : its = [.type t.nm, .type t'.nm] := ClsV.all (.cons (.ty _) (.cons (.ty _) .nil)) rv
  subst e3
  obtain ⟨oc, od, dt, sl⟩ := o
  simp only at h2 h3
  subst h2 h3
  refine PySem.W.kia_tup Z I.kIn p h1 (kitAny_cons (kit_ty (kit_isT t d)) (fun e => kitAny_cons (kit_ty (kit_isT t' d)) (fun e' => ?_) (fun e' => ?_)) fun e => ?_) hx fun tk => ⟨.bl _, H, I.tok tk, rfl, q⟩
  · rw [e, e']; exact kitAny_nil
  · rw [e, e']; rfl
  · rw [e]; rfl
def dIs (t : Ty) (f : Den) : Den := fun ρ => (f ρ).bind fun d ρ => .ok (.bool (isT t d)) ρ
def dIs2 (t t' : Ty) (f : Den) : Den := fun ρ => (f ρ).bind fun d ρ => .ok (.bool (isT t d || isT t' d)) ρ
theorem bt_ty (t : Ty) : bootBuiltins t.nm = some (.type t.nm) := by cases t <;> decide +kernel
theorem bt_isi : bootBuiltins "isinstance" = some (.builtin "isinstance") := by decide +kernel
theorem pe_ty {x : Str} (t : Ty) (hx : x = t.nm) (hg : Gl X x) (hm : X.mg x = none) : PE X (.Name x pos) (tC (.ty t.nm)) := by
  subst hx
  exact pe_bltn hg hm (bt_ty t) rfl (by cases t <;> decide) (by cases t <;> decide)
theorem px_is {e : Expr} {f : Den} {x : Str} {p p2 : Pos} (t : Ty) (hg : Gl X "isinstance") (hm : X.mg "isinstance" = none) (hx : x = t.nm) (hgt : Gl X x) (hmt : X.mg x = none) (h : PX X W M .sh e f)
    (he : starEach [e, .Name x p2] X.env = (false, eval e X.env) :: starEach [.Name x p2] X.env := by rfl) (he2 : starEach [.Name x p2] X.env = (false, eval (.Name x p2) X.env) :: starEach [] X.env := by rfl) (hpl : (backTo pos (starEach [.Name x p2] X.env)).any (·.1) = false := by rfl) : PX X W M k (.Call (.Name "isinstance" p) [e, .Name x p2] [] pos) (dIs t f) := by
  obtain ⟨tt, pt, q⟩ := h
  refine ⟨_, pe_callB (call_is1 t) hg hm bt_isi (pa_cons pt (pa_cons (pe_ty t hx hgt hmt) pa_nil he2) he) (by decide) (by decide) he hpl, fun G F ρ σ H Q S w => q _ _ _ _ _ _ S ((Post.bind w).imp fun d ρ1 F1 H1 _ S1 w1 v r => ?_)⟩
  exact ⟨v, d, rfl, Rep.mono S1.fh r, w1.now S1 _ (ResK.sc (.bl _) rfl)⟩
theorem px_is2 {e : Expr} {f : Den} {x y : Str} {p p2 p3 p4 : Pos} {kk : Nat} (t t' : Ty) (hg : Gl X "isinstance") (hm : X.mg "isinstance" = none) (hx : x = t.nm) (hgt : Gl X x) (hmt : X.mg x = none) (hy : y = t'.nm) (hgt' : Gl X y) (hmt' : X.mg y = none) (h : PX X W M .sh e f)
    (he : starEach [e, .Tuple [.Name x p2, .Name y p3] kk p4] X.env = (false, eval e X.env) :: starEach [.Tuple [.Name x p2, .Name y p3] kk p4] X.env := by rfl) (he2 : starEach [.Tuple [.Name x p2, .Name y p3] kk p4] X.env = (false, eval (.Tuple [.Name x p2, .Name y p3] kk p4) X.env) :: starEach [] X.env := by rfl)
    (he3 : starEach [.Name x p2, .Name y p3] X.env = (false, eval (.Name x p2) X.env) :: starEach [.Name y p3] X.env := by rfl) (he4 : starEach [.Name y p3] X.env = (false, eval (.Name y p3) X.env) :: starEach [] X.env := by rfl)
    (hpl : (backTo pos (starEach [.Tuple [.Name x p2, .Name y p3] kk p4] X.env)).any (·.1) = false := by rfl) : PX X W M k (.Call (.Name "isinstance" p) [e, .Tuple [.Name x p2, .Name y p3] kk p4] [] pos) (dIs2 t t' f) := by
  obtain ⟨tt, pt, q⟩ := h
  refine ⟨_, pe_callB (call_is2 t t') hg hm bt_isi (pa_cons pt (pa_cons (pe_tup (pa_cons (pe_ty t hx hgt hmt) (pa_cons (pe_ty t' hy hgt' hmt') pa_nil he4) he3)) pa_nil he2) he) (by decide) (by decide) he hpl, fun G F ρ σ H Q S w => q _ _ _ _ _ _ S ((Post.bind w).imp fun d ρ1 F1 H1 _ S1 w1 v r => ?_)⟩
  refine ⟨by show 2 ≤ sizeLine; decide, fun tp htp => ⟨v, tp, d, rfl, upd_same, (Rep.mono S1.fh r).mono (Sub.new htp), ?_⟩⟩
  exact w1.now (S1.fresh htp) _ (ResK.sc (.bl _) rfl)

/-! ### sep.join(texts) -/
def strsOf : List PyData → Option (List Str)
  | [] => some []
  | .str x :: r => (strsOf r).map (x :: ·)
  | _ :: _ => none
theorem strs_rep {T : Kt} {H : Hp} : ∀ {ds : List PyData} {xs : List V} {bs : List Str}, RepAll T H ds xs → strsOf ds = some bs → xs = bs.map V.str
  | _, _, _, .nil, e => by cases e; rfl
  | d :: ds, _, bs, .cons h a, e => by
    cases d <;> simp only [strsOf] at e <;> try cases e
    cases q : strsOf ds with
    | none => rw [q] at e; cases e
    | some r =>
      rw [q] at e; cases e
      cases h
      rw [strs_rep a q]; rfl
def gJoin (a b : PyData) : Option PyData := match a, b with
  | .str s, .list xs => (strsOf xs).bind fun ys => if (ys.map (·.length)).sum + ys.length * s.length ≤ 16777216 then some (.str (Txt.join s ys)) else none
  | .str s, .tuple xs => (strsOf xs).bind fun ys => if (ys.map (·.length)).sum + ys.length * s.length ≤ 16777216 then some (.str (Txt.join s ys)) else none
  | _, _ => none
def dJoin (fa fb : Den) : Den := fun ρ => (fa ρ).bind fun a ρ => if isT .str a = true then (fb ρ).bind fun b ρ => match gJoin a b with
  | some d => .ok d ρ
  | none => .bad
  else .bad
theorem px_join {o e : Expr} {fo fe : Den} {ap : Pos} (ho : PX X W M .sh o fo) (he : PX X W M .sh e fe) (hs : starEach [e] X.env = [(false, eval e X.env)] := by rfl) (hbase : attributeBase o "join" X.env (eval o X.env) = eval o X.env := by rfl) (hline : (ap.endLine == pos.line) = true := by rfl) : PX X W M k (.Call (.Attribute o "join" ap) [e] [] pos) (dJoin fo fe) := by
  obtain ⟨t, p, q⟩ := ho
  obtain ⟨u, p', q'⟩ := he
  refine ⟨_, pe_join p p' hs hbase hline, fun G F ρ σ H Q S w => q _ _ _ _ _ _ S ((Post.bind w).imp fun a ρ1 F1 H1 _ S1 w1 v r => ?_)⟩
  split at w1
  · rename_i ha
    cases r <;> first | cases ha | skip
    rename_i s
    refine ⟨⟨s, rfl⟩, q' _ _ _ _ _ _ S1 ((Post.bind w1).imp fun b ρ2 F2 H2 s2 S2 w2 y ry => ?_)⟩
    split at w2
    · rename_i d e2
      unfold gJoin at e2
      split at e2
      · rename_i xs ha' 
        cases ha'
        cases e3 : strsOf xs with
        | none => rw [e3] at e2; cases e2
        | some ys =>
          rw [e3] at e2
          simp only [Option.bind_some] at e2
          split at e2
          · rename_i hz
            cases e2
            cases ry with
            | lst h ra => exact ⟨s, _, ys, rfl, rfl, .inl (.inl (by rw [← strs_rep ra e3]; exact sub_r S2.fh h)), hz, w2.now S2 _ (ResK.sc (.str _) rfl)⟩
          · cases e2
      · rename_i xs ha'
        cases ha'
        cases e3 : strsOf xs with
        | none => rw [e3] at e2; cases e2
        | some ys =>
          rw [e3] at e2
          simp only [Option.bind_some] at e2
          split at e2
          · rename_i hz
            cases e2
            cases ry with
            | tup h ra => exact ⟨s, _, ys, rfl, rfl, .inr (by rw [← strs_rep ra e3]; exact tupC_sq (sub_c S2.fh h)), hz, w2.now S2 _ (ResK.sc (.str _) rfl)⟩
          · cases e2
      · cases e2
    · exact w2.elim
  · exact w1.elim

/-! ### zip of two lists or two tuples -/
def zipD (as bs : List PyData) : List PyData := List.zipWith (fun a b => .tuple [a, b]) as bs
def dZip (fa fb : Den) : DenL := fun ρ => (fa ρ).bind fun a ρ => (fb ρ).bind fun b ρ => match a, b with
  | .list xs, .list ys => .ok (zipD xs ys) ρ
  | .tuple xs, .tuple ys => .ok (zipD xs ys) ρ
  | _, _ => .bad
theorem zip_get {as bs : List PyData} {i : Nat} {d : PyData} (h : (zipD as bs)[i]? = some d) : ∃ a b, as[i]? = some a ∧ bs[i]? = some b ∧ d = .tuple [a, b] := by
  unfold zipD at h
  rw [List.getElem?_zipWith] at h
  cases ha : as[i]? with
  | none => rw [ha] at h; cases h
  | some a =>
    cases hb : bs[i]? with
    | none => rw [ha, hb] at h; cases h
    | some b => rw [ha, hb] at h; cases h; exact ⟨a, b, rfl, rfl, rfl⟩
theorem pair_new {T : Kt} {F1 H1 : Hp} {x y : V} {a b : PyData} {p : Addr} (hp : H1 p = none) (s : Sub F1 H1) (ra : Rep T F1 a x) (rb : Rep T F1 b y) : Sub H1 (upd H1 p (.tup [x, y])) ∧ ∃ F2, Sub F1 F2 ∧ (∀ M G ρ σ, SR T M G F1 ρ σ H1 → SR T M G F2 ρ σ (upd H1 p (.tup [x, y]))) ∧ RepB false T F2 (.tuple [a, b]) (.ref p) := by
  have hs : Sub F1 (upd F1 p (.tup [x, y])) := Sub.mk (s.none hp)
  exact ⟨Sub.new hp, upd F1 p (.tup [x, y]), hs, fun M G ρ σ S => S.laid hp, .inr ⟨rfl, p, _, _, rfl, rfl, .of upd_same, .cons (ra.mono hs) (.cons (rb.mono hs) .nil)⟩⟩
theorem wk_zip {T : Kt} {F : Hp} {a b : Addr} {xs ys : List V} {as bs : List PyData} (ha : Rd F a (.lst xs)) (hb : Rd F b (.lst ys)) (ra : RepAll T F as xs) (rb : RepAll T F bs ys) : Wk false T (Itz T.K a b) (zipD as bs) F := by
  intro i F1 H1 s1 s2
  have qa : SqL T.K H1 a xs := .inl (sub_r (s1.tr s2) ha)
  have qb : SqL T.K H1 b ys := .inl (sub_r (s1.tr s2) hb)
  refine ⟨fun d hd => ?_, fun hn => ⟨xs, ys, qa, qb, ?_⟩⟩
  · obtain ⟨da, db, ea, eb, rfl⟩ := zip_get hd
    obtain ⟨x, hx, rx⟩ := ra.get ea
    obtain ⟨y, hy, ry⟩ := rb.get eb
    refine ⟨⟨xs, ys, x, y, qa, qb, hx, hy⟩, fun v H2 z => ?_⟩
    obtain ⟨p, x', y', rfl, hp, rfl, h1, h2⟩ := z
    have e1 := h1 xs qa
    have e2 := h2 ys qb
    rw [hx] at e1; cases e1
    rw [hy] at e2; cases e2
    exact pair_new hp s2 (rx.mono s1) (ry.mono s1)
  · unfold zipD at hn
    rw [List.getElem?_eq_none_iff, List.length_zipWith, ra.length, rb.length] at hn
    omega
theorem wk_zipT {T : Kt} {F : Hp} {a b : Addr} {xs ys : List V} {as bs : List PyData} (ha : TupC T.K F a xs) (hb : TupC T.K F b ys) (ra : RepAll T F as xs) (rb : RepAll T F bs ys) : Wk false T (RZ.ItzT T.K a b) (zipD as bs) F := by
  intro i F1 H1 s1 s2
  have qa : SqT T.K H1 a xs := tupC_sq (sub_c (s1.tr s2) ha)
  have qb : SqT T.K H1 b ys := tupC_sq (sub_c (s1.tr s2) hb)
  refine ⟨fun d hd => ?_, fun hn => ⟨xs, ys, qa, qb, ?_⟩⟩
  · obtain ⟨da, db, ea, eb, rfl⟩ := zip_get hd
    obtain ⟨x, hx, rx⟩ := ra.get ea
    obtain ⟨y, hy, ry⟩ := rb.get eb
    refine ⟨⟨xs, ys, x, y, qa, qb, hx, hy⟩, fun v H2 z => ?_⟩
    obtain ⟨p, x', y', rfl, hp, rfl, h1, h2⟩ := z
    have e1 := h1 xs qa
    have e2 := h2 ys qb
    rw [hx] at e1; cases e1
    rw [hy] at e2; cases e2
    exact pair_new hp s2 (rx.mono s1) (ry.mono s1)
  · unfold zipD at hn
    rw [List.getElem?_eq_none_iff, List.length_zipWith, ra.length, rb.length] at hn
    omega
theorem pix_zip {e e2 : Expr} {fa fb : Den} {p tpos : Pos} {elts : List Expr} {kk : Nat} (hg : Gl X "zip") (hm : X.mg "zip" = none) (h : PX X W M .sh e fa) (h' : PX X W M .sh e2 fb)
    (hs : starEach [e, e2] X.env = (false, eval e X.env) :: starEach [e2] X.env := by rfl) (hs2 : starEach [e2] X.env = (false, eval e2 X.env) :: starEach [] X.env := by rfl) (hpl : (backTo pos (starEach [e2] X.env)).any (·.1) = false := by rfl) : PIX false X W M (.Tuple elts kk tpos) (.Call (.Name "zip" p) [e, e2] [] pos) (dZip fa fb) := by
  obtain ⟨t, pt, q⟩ := h
  obtain ⟨u, pu, q'⟩ := h'
  refine ⟨_, RZ.pi_zipA hg hm (pa_cons pt (pa_cons pu pa_nil hs2) hs) hs hpl, fun G F ρ σ H R S w => q _ _ _ _ _ _ S ((Post.bind w).imp fun a ρ1 F1 H1 _ S1 w1 v r => ?_)⟩
  refine q' _ _ _ _ _ _ S1 ((Post.bind w1).imp fun b ρ2 F2 H2 s2 S2 w2 y ry => ?_)
  have r2 := Rep.mono s2 r
  split at w2
  · cases r2 with
    | lst ha ra =>
      cases ry with
      | lst hb rb => exact ⟨_, _, _, _, rfl, .inl ⟨.inl (sub_r S2.fh ha), .inl (sub_r S2.fh hb), w2.now S2 _ (wk_zip (T := kt X) ha hb ra rb)⟩⟩
  · cases r2 with
    | tup ha ra =>
      cases ry with
      | tup hb rb => exact ⟨_, _, _, _, rfl, .inr ⟨tupC_sq (sub_c S2.fh ha), tupC_sq (sub_c S2.fh hb), w2.now S2 _ (wk_zipT (T := kt X) ha hb ra rb)⟩⟩
  · exact w2.elim
end
end PD

set_option Elab.async false
set_option linter.all false
set_option maxRecDepth 100000
set_option maxHeartbeats 2000000
set_option autoImplicit false
namespace PD
open PySem L2 PySem.Spec
/-! ### short words -/
def okV (sc : Scope) (x : Str) : Bool := visB sc x && !(x == ("__debug__" : Str)) && !(x == ("__classdict__" : Str))
def okG (sc : Scope) (x : Str) : Bool := glB sc x && !(x == ("__debug__" : Str)) && !(x == ("__name__" : Str))
theorem okV_vis {sc : Scope} {x : Str} (h : okV sc x = true) : visB sc x = true := by
  unfold okV at h; simp only [Bool.and_eq_true] at h; exact h.1.1
theorem okV_d {sc : Scope} {x : Str} (h : okV sc x = true) : (x == ("__debug__" : Str)) = false := by
  unfold okV at h; simp only [Bool.and_eq_true, Bool.not_eq_true'] at h; exact h.1.2
theorem okV_c {sc : Scope} {x : Str} (h : okV sc x = true) : (x == ("__classdict__" : Str)) = false := by
  unfold okV at h; simp only [Bool.and_eq_true, Bool.not_eq_true'] at h; exact h.2
theorem okG_g {sc : Scope} {x : Str} (h : okG sc x = true) : glB sc x = true := by
  unfold okG at h; simp only [Bool.and_eq_true] at h; exact h.1.1
theorem okG_d {sc : Scope} {x : Str} (h : okG sc x = true) : (x == ("__debug__" : Str)) = false := by
  unfold okG at h; simp only [Bool.and_eq_true, Bool.not_eq_true'] at h; exact h.1.2
section
variable {X : Cx} {N : List Str} {sc : Scope} {fn : Str → Bool} {W : WX} {M : List Md} {k : Kd} {pos p : Pos} {i : Nat} {x : Str} {m : Md} {e b : Expr} {f g : Den}
theorem wv (c : CF X N sc fn) (hi : N[i]? = some x) (hm : M[i]? = some .sh) (h : okV sc x = true) : PX X W M .sh (.Name x pos) (dVar i) := px_var (c.hi hi) (c.hv (okV_vis h)) hm (okV_d h) (okV_c h)
theorem wo (c : CF X N sc fn) (hi : N[i]? = some x) (hm : M[i]? = some m) (ho : m.own = true) (h : okV sc x = true) : PX X W M .ow (.Name x pos) (dVar i) := px_own (c.hi hi) (c.hv (okV_vis h)) hm ho (okV_d h) (okV_c h)
theorem wopO {op : Operator} {gg : PyData → PyData → Option PyData} (c : CF X N sc fn) (ho : OpD X M k (binaryOp op) gg) (hi : N[i]? = some x) (hm : M[i]? = some m) (hw : m.own = true) (h : okV sc x = true) (hb : PX X W M .ow b g) : PX X W M k (.BinOp (.Name x p) op b pos) (dOpO gg i g) := px_opO ho (c.hi hi) (c.hv (okV_vis h)) hm hb hw (okV_d h) (okV_c h)
theorem wcmpO {op : CmpOp} {gg : PyData → PyData → Option PyData} (c : CF X N sc fn) (ho : OpD X M k (compareOp op) gg) (hi : N[i]? = some x) (hm : M[i]? = some m) (hw : m.own = true) (h : okV sc x = true) (hb : PX X W M .ow b g) (hm2 : behindInMarks op b = false) : PX X W M k (.Compare (.Name x p) [op] [b] pos) (dOpO gg i g) := px_cmpO ho (c.hi hi) (c.hv (okV_vis h)) hm hb hm2 hw (okV_d h) (okV_c h)
theorem wcmpTO {op : CmpOp} {gg : PyData → PyData → Option PyData} (c : CF X N sc fn) (ho : OpD X M .ow (compareOp op) gg) (hi : N[i]? = some x) (hm : M[i]? = some m) (hw : m.own = true) (h : okV sc x = true) (hb : PX X W M .ow b g) (hm2 : behindInMarks op b = false) : PXT X W M (.Compare (.Name x p) [op] [b] pos) (dB (dOpO gg i g)) := pxt_cmpO ho (c.hi hi) (c.hv (okV_vis h)) hm hb hm2 hw (okV_d h) (okV_c h)
theorem wixO (c : CF X N sc fn) (hi : N[i]? = some x) (hm : M[i]? = some m) (hw : m.own = true) (h : okV sc x = true) (hb : PX X W M .ow b g) (hs : PlainIx b) : PX X W M .sh (.Subscript (.Name x p) b pos) (dOpO gIx i g) := px_ixO ixd (c.hi hi) (c.hv (okV_vis h)) hm hb hs hw (okV_d h) (okV_c h)
theorem wslO {lo hi' : Option Expr} {p2 : Pos} {fl fh : DenO} (c : CF X N sc fn) (hi : N[i]? = some x) (hm : M[i]? = some m) (hw : m.own = true) (h : okV sc x = true) (hl : PXO X W M lo fl) (hh : PXO X W M hi' fh) : PX X W M .fr (.Subscript (.Name x p) (.Slice lo hi' none p2) pos) (dSlO i fl fh) := px_slO (c.hi hi) (c.hv (okV_vis h)) hm hl hh hw (okV_d h) (okV_c h)
theorem wtg (c : CF X N sc fn) (hi : N[i]? = some x) (hm : M[i]? = some .sh) (h : storeB sc fn x = true) : PGX true X M (.Name x pos) [i] (tName i) := pgx_name c.ndX (c.hi hi) (c.loc h) hm (c.fnl h)
theorem wset (c : CF X N sc fn) (hi : N[i]? = some x) (hm : M[i]? = some .sh) (h : storeB sc fn x = true) (he : PX X W M .sh e f) (hs : swapsWith e (some (.Name x p)) pos.line X.env = pure false := by rfl) : PSX X W M k (.Assign [.Name x p] e pos) (dSet i f) := psx_set c.ndX (c.hi hi) (c.loc h) hm he (c.fnl h) hs
theorem wsetO (c : CF X N sc fn) (hi : N[i]? = some x) (hm : M[i]? = some .ow) (h : storeB sc fn x = true) (he : PX X W M .fr e f) (hs : swapsWith e (some (.Name x p)) pos.line X.env = pure false := by rfl) : PSX X W M k (.Assign [.Name x p] e pos) (dSetO i f) := psx_setO c.ndX (c.hi hi) (c.loc h) hm he (c.fnl h) hs
def locB (sc : Scope) (x : Str) : Bool := match sc.names.lookup x with
  | some .local => true
  | _ => false
theorem locB_eq {X : Cx} {N : List Str} {sc : Scope} {fn : Str → Bool} (c : CF X N sc fn) {x : Str} (h : locB sc x = true) : X.env.scope.names.lookup x = some .local := by
  rw [c.hs]
  unfold locB at h
  split at h
  · assumption
  · cases h
/-- the names of a one-line store, apart from the comprehension's own -/
def apartB (scope : Scope) (y : Str) : Bool := !(scope.names.any fun (n, k) => n == y && (k == .local || k == .cell))
theorem sw_by {X : Cx} {N : List Str} {sc : Scope} {fn : Str → Bool} (c : CF X N sc fn) {elt : Expr} {gs : List Comprehension} {scope : Scope} {pos py : Pos} {y : Str} {l : Nat} (hk : X.env.scope.kind = .function) (hy : locB sc y = true) (hl : (py.line == pos.line) = true) (ha : apartB scope y = true) : swapsWith (.ListComp elt gs scope pos) (some (.Name y py)) l X.env = pure true :=
  sw_true hk (locB_eq c hy) hl (by unfold apartB at ha; simpa using ha)
/-- y = [..] on one line -/
theorem wsetLC {bb : Bool} {spos py : Pos} {tg elt iter : Expr} {ifs : List Expr} {scope : Scope} {own : List (Str × Nat)} {vs' : List Nat} {it : DenL} {gg : PyData → Env → Option Env} {tt : DenB} {te : Den} (c : CF X N sc fn) (hi : N[i]? = some x) (hm : M[i]? = some .sh) (hloc : locB sc x = true) (hk : X.env.scope.kind = .function) (hl : (py.line == pos.line) = true) (hap : apartB scope x = true)
    (hit : PIX bb X W M tg iter it) (ok : blkC N sc scope own = true) (hvs : ∀ i ∈ own.map (·.2), M[i]? = some .sh) (hsub : ∀ i ∈ vs', i ∈ own.map (·.2)) (hg : ∀ b, PGX bb (bX X scope b) M tg vs' gg) (ht : ∀ b, PXTs (bX X scope b) W0 M ifs tt) (he : ∀ b, PX (bX X scope b) W0 M .sh elt te)
    (hs : ∀ x, foldedSetIterable iter X.env x = pure x := by intro _; rfl) : PSX X W M k (.Assign [.Name x py] (.ListComp elt [⟨tg, iter, ifs, 0⟩] scope pos) spos) (dSet i (dLC it gg tt te (own.map (·.2)))) :=
  psx_setLC (kk := .fr) (fs := dSet i) c (c.hi hi) (locB_eq c hloc) (sw_by c hk hloc hl hap) hit ok hvs hsub hg ht he (end_set hm) hs
theorem wsetLCO {bb : Bool} {spos py : Pos} {tg elt iter : Expr} {ifs : List Expr} {scope : Scope} {own : List (Str × Nat)} {vs' : List Nat} {it : DenL} {gg : PyData → Env → Option Env} {tt : DenB} {te : Den} (c : CF X N sc fn) (hi : N[i]? = some x) (hm : M[i]? = some .ow) (hloc : locB sc x = true) (hk : X.env.scope.kind = .function) (hl : (py.line == pos.line) = true) (hap : apartB scope x = true)
    (hit : PIX bb X W M tg iter it) (ok : blkC N sc scope own = true) (hvs : ∀ i ∈ own.map (·.2), M[i]? = some .sh) (hsub : ∀ i ∈ vs', i ∈ own.map (·.2)) (hg : ∀ b, PGX bb (bX X scope b) M tg vs' gg) (ht : ∀ b, PXTs (bX X scope b) W0 M ifs tt) (he : ∀ b, PX (bX X scope b) W0 M .sh elt te)
    (hs : ∀ x, foldedSetIterable iter X.env x = pure x := by intro _; rfl) : PSX X W M k (.Assign [.Name x py] (.ListComp elt [⟨tg, iter, ifs, 0⟩] scope pos) spos) (dSetO i (dLC it gg tt te (own.map (·.2)))) :=
  psx_setLC (kk := .fr) (fs := dSetO i) c (c.hi hi) (locB_eq c hloc) (sw_by c hk hloc hl hap) hit ok hvs hsub hg ht he (end_setO hm) hs
theorem wapp {p1 p2 p3 : Pos} (c : CF X N sc fn) (hi : N[i]? = some x) (hm : M[i]? = some m) (hw : m.own = true) (h : okV sc x = true) (he : PX X W M .sh e f) (hst : starEach [e] X.env = (false, eval e X.env) :: starEach [] X.env := by rfl)
    (hfew : ((backTo p3 (starEach [e] X.env)).all (fun x => !x.1) && (backToKw p3 (keywordEach [] X.env)).all (fun x => x.1.isSome) && decide ([e].length + ([] : List Keyword).length + (if ([] : List Keyword).isEmpty then 0 else 1) < 30)) = true := by rfl) (hline : (p2.endLine == p3.line) = true := by rfl) : PSX X W M k (.Expr (.Call (.Attribute (.Name x p1) "append" p2) [e] [] p3) pos) (dApp i f) :=
  psx_app (c.hi hi) (c.hv (okV_vis h)) hm he hw (okV_d h) (okV_c h) hst rfl hfew hline rfl rfl
theorem wext {p1 p2 p3 : Pos} (c : CF X N sc fn) (hi : N[i]? = some x) (hm : M[i]? = some m) (hw : m.own = true) (h : okV sc x = true) (he : PX X W M .sh e f) (hst : starEach [e] X.env = (false, eval e X.env) :: starEach [] X.env := by rfl)
    (hfew : ((backTo p3 (starEach [e] X.env)).all (fun x => !x.1) && (backToKw p3 (keywordEach [] X.env)).all (fun x => x.1.isSome) && decide ([e].length + ([] : List Keyword).length + (if ([] : List Keyword).isEmpty then 0 else 1) < 30)) = true := by rfl) (hline : (p2.endLine == p3.line) = true := by rfl) : PSX X W M k (.Expr (.Call (.Attribute (.Name x p1) "extend" p2) [e] [] p3) pos) (dExt i f) :=
  psx_ext (c.hi hi) (c.hv (okV_vis h)) hm he hw (okV_d h) (okV_c h) hst rfl hfew hline rfl rfl
theorem wstL {j : Nat} {py p2 : Pos} {ix : Expr} {fi : Den} (c : CF X N sc fn) (hj : N[j]? = some x) (hm : M[j]? = some m) (hw : m.own = true) (h : okV sc x = true) (hi : PX X W M .ow ix fi) (he : PX X W M .sh e f) (ha : ∀ v, assign (.Subscript (.Name x py) ix p2) X.env v = (do
      let ov ← holding [v] (eval (.Name x py) X.env)
      let iv ← holding [v, ov] (eval ix X.env)
      standAt p2
      holding [v, ov, iv] (setItem ov iv v)
      release [v, ov, iv] []) := by intro _; rfl)
    (hs : swapsWithSole [.Subscript (.Name x py) ix p2] e pos.line X.env = pure false := by rfl) (hw2 : swappedStores [.Subscript (.Name x py) ix p2] e X.env = pure none := by rfl) (h1 : (assignEach [.Subscript (.Name x py) ix p2] X.env).map (·.2) = [assign (.Subscript (.Name x py) ix p2) X.env] := by rfl) : PSX X W M k (.Assign [.Subscript (.Name x py) ix p2] e pos) (dStL j f fi) :=
  psx_stL (c.hi hj) (c.hv (okV_vis h)) hm hi he hw (okV_d h) (okV_c h) ha hs hw2 h1
end

/-! ### defs of the module -/
structure Def (K : PySem.W.Frag) (mg : Str → Option Value) (x : Str) (st : Stmt) : Prop where
  ex : ∃ (f : Addr) (fd : FuncData), Fun K x x st f fd ∧ mg x = some (.ref f)
structure FnX (P : Program) (w : World) (K : PySem.W.Frag) (mg : Str → Option Value) (base : Heap) (n : Nat) (x : Str) (ms : List Md) (k : Kd) (F : FDen) : Prop where
  ex : ∃ (f : Addr) (fd : FuncData) (ps : List Str), mg x = some (.ref f) ∧ PySem.W.keepIn K (.ref f) = true ∧ Binds K fd ps [] ∧ FnD P w K mg base n f fd ps ms k F
section
variable {P : Program} {w : World} {K : PySem.W.Frag} {mg : Str → Option Value} {base : Heap}
theorem FnX.mono {m n : Nat} {x : Str} {ms : List Md} {k : Kd} {F : FDen} (h : FnX P w K mg base m x ms k F) (hmn : m ≤ n) : FnX P w K mg base n x ms k F :=
  let ⟨f, fd, ps, a, b, c, d⟩ := h.ex; ⟨f, fd, ps, a, b, c, d.mono hmn⟩
theorem fnx_of {n : Nat} {x : Str} {st : Stmt} {N ps : List Str} {ms M : List Md} {k : Kd} {body : DenS} (D : Def K mg x st) (S : FnScope N ps (defScope st)) (hlen : ms.length = ps.length) (hMp : M.take ms.length = ms) (hMl : M.length = N.length) (hpm : ∀ m ∈ ms, m ≠ .ow)
    (hbind : ∀ (kV doc pm : Value) (an : Option Addr) (cdv ct : Value) (us : List Value), us.length = ps.length → bindArgs (PySem.W.fnOf x x (defArgs st) (defBody st) (defScope st) .none kV doc pm an cdv ct) ⟨us, []⟩ = pure (ps.zip us))
    (hbody : ∀ (X : Cx) (W : WX), X.prog = P → X.w = w → X.K = K → X.mg = mg → X.base = base → Room n X.A → Takes X W → PassesOwn (model X.prog X.w) X.A X.env X.xe → X.env.scope.kind = .function → CF X N (defScope st) (fun _ => true) → PSsX X W M k (defBody st) body) : FnX P w K mg base (n + 1) x ms k (runBody N.length ms body) := by
  obtain ⟨f, fd, F, hm⟩ := D.ex
  refine ⟨f, fd, ps, hm, F.kp, F.binds hbind, fnd_of F S hlen hMp hMl hpm fun cdv A outer s H E hr c => ?_⟩
  exact hbody _ _ rfl rfl rfl rfl rfl hr (takes_of rfl rfl rfl rfl) (passes_of rfl) S.kind c
end
section
variable {X : Cx} {N : List Str} {sc : Scope} {fn : Str → Bool} {W : WX} {M : List Md} {k : Kd} {pos p : Pos} {x : Str}
/-- f(e, ..) of a def of the module, all arguments shared -/
theorem wcall {n n' : Nat} {ms : List Md} {F : FDen} {e : Expr} {es : List Expr} {g : DenL} (c : CF X N sc fn) (Fn : FnX X.prog X.w X.K X.mg X.base n x ms k F) (hr : Room n' X.A) (hn : n ≤ n') (tk : Takes X W) (hg : okG sc x = true) (hms : ms = List.replicate (e :: es).length .sh)
    (ha : PXA X W M (e :: es) g) (hgl : ∀ ρ ds ρ', g ρ = .ok ds ρ' → ds.length = (e :: es).length) (he : starEach (e :: es) X.env = (false, eval e X.env) :: starEach es X.env := by rfl) (hpl : (backTo pos (starEach es X.env)).any (·.1) = false := by rfl) :
    PX X W M k (.Call (.Name x p) (e :: es) [] pos) (dCall F g) := by
  obtain ⟨f, fd, ps, a, b, cc, d⟩ := Fn.ex
  exact px_call d (hr.mono hn) c.gd (c.gl (okG_g hg)) a b cc tk (by rw [hms]; exact fun m hm => List.eq_of_mem_replicate hm) (by rw [hms]; simp) ha hgl (okG_d hg) he hpl
/-- f(own, e, ..) -/
theorem wcallP {n n' : Nat} {ms : List Md} {F : FDen} {es : List Expr} {g : DenL} {j : Nat} {y : Str} {m : Md} {py : Pos} (c : CF X N sc fn) (Fn : FnX X.prog X.w X.K X.mg X.base n x (.pm :: ms) k F) (hr : Room n' X.A) (hn : n ≤ n') (tk : Takes X W) (hg : okG sc x = true) (hms : ms = List.replicate es.length .sh)
    (hj : N[j]? = some y) (hm : M[j]? = some m) (ho : m.own = true) (hy : okV sc y = true) (ha : PXA X W M es g) (hgl : ∀ ρ ds ρ', g ρ = .ok ds ρ' → ds.length = es.length) (he : starEach (.Name y py :: es) X.env = (false, eval (.Name y py) X.env) :: starEach es X.env := by rfl) (hpl : (backTo pos (starEach es X.env)).any (·.1) = false := by rfl) :
    PX X W M k (.Call (.Name x p) (.Name y py :: es) [] pos) (dCallP F j g) := by
  obtain ⟨f, fd, ps, a, b, cc, d⟩ := Fn.ex
  exact px_callP d (hr.mono hn) c.gd (c.gl (okG_g hg)) a b cc tk (by rw [hms]; exact fun m hm => List.eq_of_mem_replicate hm) (by rw [hms]; simp) (c.hi hj) (c.hv (okV_vis hy)) hm ho ha hgl (okV_d hy) (okV_c hy) (okG_d hg) he hpl
theorem gl_nil : ∀ ρ ds ρ', dNil ρ = .ok ds ρ' → ds.length = 0 := fun ρ ds ρ' h => by cases h; rfl
theorem gl_cons {f : Den} {g : DenL} {n : Nat} (hg : ∀ ρ ds ρ', g ρ = .ok ds ρ' → ds.length = n) : ∀ ρ ds ρ', dCons f g ρ = .ok ds ρ' → ds.length = n + 1 := fun ρ ds ρ' h => by
  unfold dCons at h
  cases o : f ρ with
  | bad => rw [o] at h; cases h
  | exc _ _ => rw [o] at h; cases h
  | ok d ρ1 =>
    rw [o] at h
    simp only [Out.bind_ok] at h
    cases o2 : g ρ1 with
    | bad => rw [o2] at h; cases h
    | exc _ _ => rw [o2] at h; cases h
    | ok es ρ2 => rw [o2] at h; cases h; simp [hg _ _ _ o2]
/-- a module's constant -/
def ScC (mg : Str → Option Value) (x : Str) (v : V) : Prop := ∃ u, mg x = some u ∧ RelV v u
theorem wconI (c : CF X N sc fn) {i : Int} (h : ScC X.mg x (.int i)) (hg : okG sc x = true) : PX X W M k (.Name x pos) (dC (.int i)) := by
  obtain ⟨u, h1, h2⟩ := h
  exact px_c (pe_glob (c.gl (okG_g hg)) h1 h2 (okG_d hg)) fun _ _ => .int i
theorem wconS (c : CF X N sc fn) {i : Str} (h : ScC X.mg x (.str i)) (hg : okG sc x = true) : PX X W M k (.Name x pos) (dC (.str i)) := by
  obtain ⟨u, h1, h2⟩ := h
  exact px_c (pe_glob (c.gl (okG_g hg)) h1 h2 (okG_d hg)) fun _ _ => .str i
/-- .. a tuple of texts -/
def TuC (K : PySem.W.Frag) (mg : Str → Option Value) (x : Str) (ds : List Str) : Prop := ∃ (a : Addr), mg x = some (.ref a) ∧ ∀ H, TupC K H a (ds.map V.str)
theorem reps_strs {T : Kt} {H : Hp} : ∀ ds : List Str, RepAll T H (ds.map PyData.str) (ds.map V.str)
  | [] => .nil
  | d :: ds => .cons (.str d) (reps_strs ds)
theorem wconT (c : CF X N sc fn) {ds : List Str} (h : TuC X.K X.mg x ds) (hg : okG sc x = true) : PX X W M k (.Name x pos) (dC (.tuple (ds.map .str))) := by
  obtain ⟨a, h1, h2⟩ := h
  exact ⟨_, pe_glob (v := .ref a) (c.gl (okG_g hg)) h1 rfl (okG_d hg), fun G F ρ σ H Q S q => q.now S _ (ResK.sc (.tup (h2 F) (reps_strs ds)) rfl)⟩
end
end PD

set_option Elab.async false
set_option linter.all false
set_option maxRecDepth 100000
set_option maxHeartbeats 2000000
set_option autoImplicit false
namespace PD
open PySem L2 PySem.Spec

/-! ### dicts whose keys are ints and texts -/
abbrev Ps := List (PyData × PyData)
def keyB : PyData → Key → Bool
  | .int i, .inl j => decide (i = j)
  | .str x, .inr y => decide (x = y)
  | _, _ => false
def toKey : PyData → Option Key
  | .int i => some (.inl i)
  | .str x => some (.inr x)
  | _ => none
/-- the data of a dict whose keys are tuples -/
def isN : Ps → Bool
  | (.none, _) :: _ => true
  | _ => false
def dfind (ps : Ps) (k : Key) : Option PyData := (ps.find? fun p => keyB p.1 k).map (·.2)
def dput (ps : Ps) (k : Key) (d : PyData) : Ps := if (ps.any fun p => keyB p.1 k) = true then ps.map fun p => if keyB p.1 k = true then (p.1, d) else p else ps ++ [(kD k, d)]
abbrev zk (kvs : List (Key × V)) (ds : List PyData) : Ps := List.zipWith (fun kv d => (kD kv.1, d)) kvs ds
theorem keyB_kD (k j : Key) : keyB (kD k) j = decide (k = j) := by
  cases k <;> cases j <;> simp [kD, keyB]
theorem kD_key (k : Key) : toKey (kD k) = some k := by cases k <;> rfl
theorem toKey_rep {T : Kt} {H : Hp} {d : PyData} {v : V} {k : Key} (r : Rep T H d v) (h : toKey d = some k) : v = kV k := by
  cases r <;> first | (cases h; rfl) | cases h
theorem zk_find {T : Kt} {F : Hp} (k : Key) : ∀ {kvs : List (Key × V)} {ds : List PyData}, RepAll T F ds (kvs.map (·.2)) → (∃ d v, dfind (zk kvs ds) k = some d ∧ valV kvs k = some v ∧ Rep T F d v) ∨ (dfind (zk kvs ds) k = none ∧ valV kvs k = none)
  | [], _, r => by
    cases r
    exact .inr ⟨rfl, rfl⟩
  | (k0, v0) :: kvs, _, r => by
    cases r with
    | cons h a =>
      rename_i d ds
      by_cases e : k0 = k
      · refine .inl ⟨d, v0, ?_, valV_pos e, h⟩
        simp [dfind, zk, keyB_kD, e]
      · rw [valV_neg e]
        have q : dfind (zk ((k0, v0) :: kvs) (d :: ds)) k = dfind (zk kvs ds) k := by simp [dfind, zk, keyB_kD, e]
        rw [q]
        exact zk_find k a
theorem zk_any {k : Key} : ∀ {kvs : List (Key × V)} {ds : List PyData}, ds.length = kvs.length → ((zk kvs ds).any fun p => keyB p.1 k) = kvs.any fun kv => decide (kv.1 = k)
  | [], [], _ => rfl
  | (k0, v0) :: kvs, d :: ds, h => by
    have := zk_any (k := k) (kvs := kvs) (ds := ds) (by simpa using h)
    simp only [zk, List.zipWith_cons_cons, List.any_cons, keyB_kD] at this ⊢
    rw [this]
  | [], _ :: _, h => by simp at h
  | _ :: _, [], h => by simp at h
theorem zk_repl {T : Kt} {F : Hp} {k : Key} {d : PyData} {v : V} (rd : Rep T F d v) : ∀ {kvs : List (Key × V)} {ds : List PyData}, RepAll T F ds (kvs.map (·.2)) →
    ∃ ds', RepAll T F ds' ((kvs.map fun kv => if kv.1 = k then (kv.1, v) else kv).map (·.2)) ∧ (zk kvs ds).map (fun p => if keyB p.1 k = true then (p.1, d) else p) = zk (kvs.map fun kv => if kv.1 = k then (kv.1, v) else kv) ds'
  | [], _, r => by
    cases r
    exact ⟨[], .nil, rfl⟩
  | (k0, v0) :: kvs, _, r => by
    cases r with
    | cons h a =>
      rename_i d0 ds
      obtain ⟨ds', r', e'⟩ := zk_repl (k := k) rd a
      by_cases e : k0 = k
      · refine ⟨d :: ds', ?_, ?_⟩
        · simp only [List.map_cons, if_pos e]; exact .cons rd r'
        · simp only [zk, List.zipWith_cons_cons, List.map_cons, if_pos e, keyB_kD, decide_eq_true_eq] at e' ⊢
          rw [e']
      · refine ⟨d0 :: ds', ?_, ?_⟩
        · simp only [List.map_cons, if_neg e]; exact .cons h r'
        · simp only [zk, List.zipWith_cons_cons, List.map_cons, if_neg e, keyB_kD, decide_eq_true_eq] at e' ⊢
          rw [e']
theorem zk_put {T : Kt} {F : Hp} {k : Key} {d : PyData} {v : V} {kvs : List (Key × V)} {ds : List PyData} (r : RepAll T F ds (kvs.map (·.2))) (rd : Rep T F d v) : ∃ ds', RepAll T F ds' ((putK kvs k v).map (·.2)) ∧ dput (zk kvs ds) k d = zk (putK kvs k v) ds' := by
  have hl : ds.length = kvs.length := by simpa using r.length
  unfold dput putK
  rw [zk_any hl]
  split
  · exact zk_repl rd r
  · refine ⟨ds ++ [d], ?_, ?_⟩
    · rw [List.map_append]; exact r.append (.cons rd .nil)
    · unfold zk
      rw [List.zipWith_append hl.symm]
      rfl
theorem zk_len {kvs : List (Key × V)} {ds : List PyData} (h : ds.length = kvs.length) : (zk kvs ds).length = kvs.length := by simp [zk, h]
theorem isN_zk {kvs : List (Key × V)} {ds : List PyData} : isN (zk kvs ds) = false := by
  cases kvs with
  | nil => rfl
  | cons p kvs => cases ds with
    | nil => rfl
    | cons d ds =>
      rcases p with ⟨k, v⟩
      cases k <;> rfl
theorem rep_dk {T : Kt} {H : Hp} {ps : Ps} {v : V} (r : Rep T H (.dict ps) v) (h : isN ps = false) : ∃ a kvs ds, v = .ref a ∧ H a = some (.dK kvs) ∧ RepAll T H ds (kvs.map (·.2)) ∧ ps = zk kvs ds := by
  cases r with
  | dk e a => exact ⟨_, _, _, rfl, e, a, rfl⟩
  | dn => cases h
theorem top_dk {T : Kt} {H F : Hp} {ps : Ps} {a : Addr} (t : Top T H F a (.dict ps)) (h : isN ps = false) : ∃ kvs ds, H a = some (.dK kvs) ∧ RepAll T F ds (kvs.map (·.2)) ∧ ps = zk kvs ds := by
  cases t with
  | dk e a => exact ⟨_, _, e, a, rfl⟩
  | dn => cases h
theorem brw_dk {T : Kt} {H F : Hp} {ps : Ps} {v : V} (b : Brw T H F (.dict ps) v) (s : Sub F H) (h : isN ps = false) : ∃ a kvs ds, v = .ref a ∧ H a = some (.dK kvs) ∧ RepAll T F ds (kvs.map (·.2)) ∧ ps = zk kvs ds := by
  cases b with
  | rep r =>
    obtain ⟨a, kvs, ds, e, h1, r1, e1⟩ := rep_dk r h
    exact ⟨a, kvs, ds, e, s _ _ h1, r1, e1⟩
  | top t =>
    obtain ⟨kvs, ds, h1, r1, e1⟩ := top_dk t h
    exact ⟨_, kvs, ds, rfl, h1, r1, e1⟩

/-- d[y] -/
def gDGet : PyData → PyData → Option PyData
  | .dict ps, y => if isN ps = true then none else (toKey y).bind (dfind ps)
  | _, _ => none
/-- y in d -/
def gDIn : PyData → PyData → Option PyData
  | y, .dict ps => if isN ps = true then none else (toKey y).map fun k => .bool (dfind ps k).isSome
  | _, _ => none
def gDNotIn : PyData → PyData → Option PyData
  | y, .dict ps => if isN ps = true then none else (toKey y).map fun k => .bool (!(dfind ps k).isSome)
  | _, _ => none
section
variable {X : Cx} {W : WX} {M : List Md} {k : Kd} {pos : Pos}
def rDGetK : R2 := fun x y H Q => ∃ a v, x = .ref a ∧ DGet H a y (some v) ∧ Q v H
def rDInK : R2 := fun y x H Q => ∃ a o, x = .ref a ∧ DGet H a y o ∧ Q (.bl o.isSome) H
def rDNotInK : R2 := fun y x H Q => ∃ a o, x = .ref a ∧ DGet H a y o ∧ Q (.bl (!o.isSome)) H
theorem dget_q (W : WX) (G F : Hp) (ρ : Env) (σ : St) (H : Hp) (x y : V) (dx dy d : PyData) (Q : VK) (S : SR (kt X) M G F ρ σ H) (bx : Brw (kt X) H F dx x) (b_y : Brw (kt X) H F dy y) (e : gDGet dx dy = some d)
    (p : Post X W M G F σ (.ok d ρ) (fun d ρ' F' H' => ∀ v, ResK .sh (kt X) M G F' H' ρ' σ v d → Q v H')) : rDGetK x y H Q := by
  unfold gDGet at e
  split at e
  · rename_i ps
    split at e
    · cases e
    · rename_i hn
      obtain ⟨a, kvs, ds, rfl, h1, r1, rfl⟩ := brw_dk bx S.fh (by simpa using hn)
      cases hk : toKey dy with
      | none => rw [hk] at e; cases e
      | some k =>
        rw [hk] at e
        simp only [Option.bind_some] at e
        obtain rfl : _ = kV k := toKey_rep (b_y.scal (by revert hk; cases dy <;> intro hk <;> first | rfl | cases hk)) hk
        rcases zk_find k r1 with ⟨d', v, e1, e2, r2⟩ | ⟨e1, e2⟩
        · rw [e] at e1; cases e1
          exact ⟨a, v, rfl, by rw [← e2]; exact DGet.k h1, p.now S v r2⟩
        · rw [e] at e1; cases e1
  · cases e
theorem din_q (W : WX) (G F : Hp) (ρ : Env) (σ : St) (H : Hp) (x y : V) (dx dy d : PyData) (Q : VK) (S : SR (kt X) M G F ρ σ H) (bx : Brw (kt X) H F dx x) (b_y : Brw (kt X) H F dy y) (e : gDIn dx dy = some d)
    (p : Post X W M G F σ (.ok d ρ) (fun d ρ' F' H' => ∀ v, ResK k (kt X) M G F' H' ρ' σ v d → Q v H')) : rDInK x y H Q := by
  unfold gDIn at e
  split at e
  · rename_i ps
    split at e
    · cases e
    · rename_i hn
      obtain ⟨a, kvs, ds, rfl, h1, r1, rfl⟩ := brw_dk b_y S.fh (by simpa using hn)
      cases hk : toKey dx with
      | none => rw [hk] at e; cases e
      | some k =>
        rw [hk] at e
        simp only [Option.map_some] at e
        obtain rfl : _ = kV k := toKey_rep (bx.scal (by revert hk; cases dx <;> intro hk <;> first | rfl | cases hk)) hk
        have same : (dfind (zk kvs ds) k).isSome = (valV kvs k).isSome := by
          rcases zk_find k r1 with ⟨d', v, e1, e2, r2⟩ | ⟨e1, e2⟩ <;> rw [e1, e2] <;> rfl
        cases e
        exact ⟨a, _, rfl, DGet.k h1, p.now S _ (ResK.sc (by rw [same]; exact .bl _) rfl)⟩
  · cases e
theorem dnin_q (W : WX) (G F : Hp) (ρ : Env) (σ : St) (H : Hp) (x y : V) (dx dy d : PyData) (Q : VK) (S : SR (kt X) M G F ρ σ H) (bx : Brw (kt X) H F dx x) (b_y : Brw (kt X) H F dy y) (e : gDNotIn dx dy = some d)
    (p : Post X W M G F σ (.ok d ρ) (fun d ρ' F' H' => ∀ v, ResK k (kt X) M G F' H' ρ' σ v d → Q v H')) : rDNotInK x y H Q := by
  unfold gDNotIn at e
  split at e
  · rename_i ps
    split at e
    · cases e
    · rename_i hn
      obtain ⟨a, kvs, ds, rfl, h1, r1, rfl⟩ := brw_dk b_y S.fh (by simpa using hn)
      cases hk : toKey dx with
      | none => rw [hk] at e; cases e
      | some k =>
        rw [hk] at e
        simp only [Option.map_some] at e
        obtain rfl : _ = kV k := toKey_rep (bx.scal (by revert hk; cases dx <;> intro hk <;> first | rfl | cases hk)) hk
        have same : (dfind (zk kvs ds) k).isSome = (valV kvs k).isSome := by
          rcases zk_find k r1 with ⟨d', v, e1, e2, r2⟩ | ⟨e1, e2⟩ <;> rw [e1, e2] <;> rfl
        cases e
        exact ⟨a, _, rfl, DGet.k h1, p.now S _ (ResK.sc (by rw [same]; exact .bl _) rfl)⟩
  · cases e
theorem px_dget {a b : Expr} {fa fb : Den} (hu : X.A.units + 1 < cLine) (ha : PX X W M .sh a fa) (hb : PX X W M .ow b fb) (hs : NoSl b) : PX X W M .sh (.Subscript a b pos) (dOp gDGet fa fb) := by
  obtain ⟨ta, pa, qa⟩ := ha
  obtain ⟨tb, pb, qb⟩ := hb
  exact ⟨_, pe_dget hu pa pb hs, fun G F ρ σ H Q S w => op_run (f := getItem) (r := rDGetK) (a := a) (b := b) (k := .sh) dget_q qa qb S w⟩
theorem px_dgetO {i : Nat} {x : Str} {m : Md} {p : Pos} {b : Expr} {fb : Den} (hu : X.A.units + 1 < cLine) (hi : X.N[i]? = some x) (hv : Vis X.env.scope x) (hm : M[i]? = some m) (hb : PX X W M .ow b fb) (hs : NoSl b) (ho : m.own = true := by rfl)
    (hd : (x == ("__debug__" : Str)) = false := by decide) (hcd : (x == ("__classdict__" : Str)) = false := by decide) : PX X W M .sh (.Subscript (.Name x p) b pos) (dOpO gDGet i fb) := by
  obtain ⟨tb, pb, qb⟩ := hb
  exact ⟨_, pe_dget hu (pe_var hi hv hd hcd) pb hs, fun G F ρ σ H Q S w => own_run (f := getItem) (r := rDGetK) (b := b) (k := .sh) dget_q hm ho qb S w⟩
theorem px_din {a b : Expr} {fa fb : Den} (hu : X.A.units + 1 < cLine) (ha : PX X W M .sh a fa) (hb : PX X W M .ow b fb) (hm : behindInMarks .In b = false) : PX X W M k (.Compare a [.In] [b] pos) (dOp gDIn fa fb) := by
  obtain ⟨ta, pa, qa⟩ := ha
  obtain ⟨tb, pb, qb⟩ := hb
  exact ⟨_, pe_cmp (pc_din hu pa pb) hm, fun G F ρ σ H Q S w => op_run (f := getItem) (r := rDInK) (a := a) (b := b) (k := k) din_q qa qb S w⟩
theorem px_dnin {a b : Expr} {fa fb : Den} (hu : X.A.units + 1 < cLine) (ha : PX X W M .sh a fa) (hb : PX X W M .ow b fb) (hm : behindInMarks .NotIn b = false) : PX X W M k (.Compare a [.NotIn] [b] pos) (dOp gDNotIn fa fb) := by
  obtain ⟨ta, pa, qa⟩ := ha
  obtain ⟨tb, pb, qb⟩ := hb
  exact ⟨_, pe_cmp (pc_dnotin hu pa pb) hm, fun G F ρ σ H Q S w => op_run (f := getItem) (r := rDNotInK) (a := a) (b := b) (k := k) dnin_q qa qb S w⟩
end
end PD

set_option Elab.async false
set_option linter.all false
set_option maxRecDepth 100000
set_option maxHeartbeats 2000000
set_option autoImplicit false
namespace PD
open PySem L2 PySem.Spec PySem.W

/-! ### sorted(d) -/
theorem sorts_one {prog : Program} {w : World} {A : Around} {s : Shared} {v : Value} {d : PyData} {as : List Addr} (r : Reads s.heap v d as) (hal : alike d d = true) (hn : d ≠ .none) (hu : A.units + d.depth < cLine) : SortsAt prog w A s (dataKind s.heap [d]) [v] := by
  have hA : AllAlike [d] := fun a ha b hb => by
    rw [List.mem_singleton.mp ha, List.mem_singleton.mp hb]; exact hal
  refine ⟨fun x hx => ?_, PyProof.Rows.general', ?_, fun h2 => absurd h2 (by simp)⟩
  · rw [List.mem_singleton.mp hx]
    exact ⟨_, dataKind_some hA (List.mem_singleton.mpr rfl) r⟩
  · intro E x y a b Q ha hb hq
    obtain ⟨d1, as1, hd, ra, rfl⟩ := dataKind_inv ha
    obtain ⟨d2, as2, hd', rb, rfl⟩ := dataKind_inv hb
    rw [List.mem_singleton.mp hd] at ra hq
    rw [List.mem_singleton.mp hd'] at rb hq
    rw [show PyProof.Rows.keyLt' PyProof.Rows.general' x y = PyProof.Rows.oneLt' false x y from rfl]
    exact oneLt_alike (fun h => by cases h) ra rb hal hn (by rw [Nat.min_self]; exact hu) hq
def isTup1 : PyData → Bool
  | .tuple (_ :: _) => true
  | _ => false
def noTup : PyData → Bool
  | .tuple _ => false
  | .none => false
  | _ => true
def sortOk (ks : List PyData) : Bool := (ks.all fun d => d.plain && decide (d.depth ≤ 64) && !(match d with | .none => true | _ => false)) && (ks.all fun d => ks.all fun d' => alike d d') && (decide (ks.length ≤ 1) || ks.all isTup1 || ks.all noTup)
def sortD (ks : List PyData) : List PyData := ks.mergeSort (dataLe false id)
theorem sorts_of {prog : Program} {w : World} {A : Around} {s : Shared} {vs : List Value} {ks : List PyData} (h : sortOk ks = true) (e : EachIs (fun v d => ∃ as, Reads s.heap v d as) vs ks) (hu : A.units + 66 < cLine) : AllAlike ks ∧ SortsAt prog w A s (dataKind s.heap ks) vs := by
  unfold sortOk at h
  simp only [Bool.and_eq_true, Bool.or_eq_true] at h
  obtain ⟨⟨h1, h2⟩, h3⟩ := h
  have hal : AllAlike ks := fun d hd d' hd' => List.all_eq_true.mp (List.all_eq_true.mp h2 d hd) d' hd'
  have hdep : ∀ d, d ∈ ks → A.units + d.depth < cLine := fun d hd => by
    have := List.all_eq_true.mp h1 d hd
    simp only [Bool.and_eq_true, decide_eq_true_eq] at this
    omega
  refine ⟨hal, ?_⟩
  rcases h3 with (h3 | h3) | h3
  · have h3 : ks.length ≤ 1 := by simpa using h3
    cases ks with
    | nil => exact SortsAt.data e hal (.inl fun d hd => nomatch hd) hdep
    | cons d r =>
      cases r with
      | cons _ _ => simp at h3
      | nil =>
        cases e with
        | cons e1 e2 =>
          cases e2
          obtain ⟨as, ra⟩ := e1
          have hn : d ≠ .none := fun z => by
            have := List.all_eq_true.mp h1 d (List.mem_singleton.mpr rfl)
            subst z; simp at this
          exact sorts_one ra (hal _ (List.mem_singleton.mpr rfl) _ (List.mem_singleton.mpr rfl)) hn (hdep _ (List.mem_singleton.mpr rfl))
  · refine SortsAt.data e hal (.inl fun d hd => ?_) hdep
    have := List.all_eq_true.mp h3 d hd
    unfold isTup1 at this
    split at this
    · exact ⟨_, _, rfl⟩
    · cases this
  · refine SortsAt.data e hal (.inr fun d hd => ?_) hdep
    have := List.all_eq_true.mp h3 d hd
    unfold noTup at this
    split at this
    · cases this
    · cases this
    · rename_i n1 n2; exact ⟨n2, n1⟩
/-- xs.sort() of data -/
theorem sort_data {prog : Program} {w : World} {A : Around} {E : Value → Shared → Prop} {s : Shared} {vs : List Value} {ks : List PyData} {R : Value → PyData → Prop} {a : Addr} {n : Nat} {Q : Value → Shared → Prop} (ho : s.heap.get? a = some (PyProof.Rows.seqObj "list" vs.toArray n)) (e : EachIs R vs ks)
    (er : EachIs (fun v b => ∃ as, Reads s.heap v b as ∧ a ∉ as) vs ks) (hok : sortOk ks = true) (hL : ks.length ≤ sizeLine) (hu : A.units + 67 < cLine) (h : ∀ out, out.length = ks.length → EachIs R out (sortD ks) → Q .none { s with heap := PyProof.Rows.sortedHeap s.heap a vs (List.toArray out) }) :
    wpAny (model prog w) A (call (.builtin "list.sort") [.ref a]) Q E s := by
  have hal : AllAlike ks := by
    unfold sortOk at hok
    simp only [Bool.and_eq_true] at hok
    exact fun d hd d' hd' => List.all_eq_true.mp (List.all_eq_true.mp hok.1.2 d hd) d' hd'
  have hal' : AllAlike (ks.map id) := by rw [List.map_id]; exact hal
  have er' : EachIs (fun v b => ∃ as, Reads (sortingHeap s.heap a vs) v b as) vs ks := each_keepBut (enc := id) (h' := sortingHeap s.heap a vs) (fun _ _ hb q => sortingHeap_old hb q) (fun o q => by rw [ho] at q; rw [← Option.some.inj q]) hal' er
  obtain ⟨_, S⟩ := sorts_of (prog := prog) (w := w) (A := A.in1) (s := { s with heap := sortingHeap s.heap a vs }) hok er' (by show A.units + 1 + 66 < cLine; omega)
  refine wpAny_call_entry PyProof.Rows.slot_list_sort ⟨_, ho, rfl⟩ PyProof.Rows.entry_list_sort (list_sort_vals ho S (by rw [e.length]; exact hL) ⟨.none, rfl, ?_⟩) (PyProof.Rows.args_list_sort _)
  have z := sortVals_data (enc := id) (h' := sortingHeap s.heap a vs) false e er' hal'
  rw [List.map_id] at z
  exact h _ (by rw [sortVals_length false rfl]; exact e.length) z

/-- the keys of the dict at a -/
def KeysAt (T : Kt) (H F : Hp) (a : Addr) (ks : List PyData) : Prop :=
  (∃ kvs : List (Key × V), H a = some (.dK kvs) ∧ ks = kvs.map fun kv => kD kv.1) ∨
  ∃ (o : Obj) (es : Array DictEntry) (ep : Nat) (ents : List (NestedKey × Addr × Value)), H a = some (exo a o) ∧ o.ExactDict ∧ o.data = .dict es ep ∧ es.toList = ents.map (entryOfKey (nestedKind T.P T.w)) ∧ (a == sysModules) = false ∧ ents.length ≤ sizeLine ∧ RepAll T F ks (ents.map fun e => V.ref e.2.1)
def keysD (ps : Ps) : List PyData := if isN ps = true then (ps.drop 1).map (·.1) else ps.map (·.1)
theorem vals_len {xs : List V} {us : List Value} (r : Vals xs us) : xs.length = us.length := r.length
theorem map_fst_zip' {α β : Type} : ∀ {a : List α} {b : List β}, a.length = b.length → (a.zip b).map (·.1) = a
  | [], _, _ => rfl
  | x :: a, [], h => by simp at h
  | x :: a, y :: b, h => by simp [map_fst_zip' (a := a) (b := b) (by simpa using h)]
theorem keys_zk {kvs : List (Key × V)} {ds : List PyData} (h : ds.length = kvs.length) : keysD (zk kvs ds) = kvs.map fun kv => kD kv.1 := by
  unfold keysD
  rw [isN_zk, if_neg Bool.false_ne_true]
  induction kvs generalizing ds with
  | nil => rfl
  | cons p kvs ih => cases ds with
    | nil => simp at h
    | cons d ds => simpa [zk] using ih (ds := ds) (by simpa using h)
theorem keys_dn {ks vs : List PyData} (h : ks.length = vs.length) : keysD ((.none, .none) :: ks.zip vs) = ks := by
  show ((ks.zip vs).map (·.1)) = ks
  exact map_fst_zip' h
theorem keys_brw {T : Kt} {H F : Hp} {ps : Ps} {v : V} (b : Brw T H F (.dict ps) v) (s : Sub F H) : ∃ a, v = .ref a ∧ KeysAt T H F a (keysD ps) := by
  cases b with
  | rep r =>
    cases r with
    | dk h r => exact ⟨_, rfl, .inl ⟨_, s _ _ h, keys_zk (by simpa using r.length)⟩⟩
    | dn h1 h2 h3 h4 h5 h6 h7 h8 h9 h10 a h11 b =>
      refine ⟨_, rfl, .inr ⟨_, _, _, _, s _ _ h1, h2, h3, h4, h6, h7, ?_⟩⟩
      rw [keys_dn]
      · exact a
      · have e1 := a.length; have e2 := b.length; have e3 := vals_len h11
        simp only [List.length_map] at e1 e3
        omega
  | top t =>
    cases t with
    | dk h r => exact ⟨_, rfl, .inl ⟨_, h, keys_zk (by simpa using r.length)⟩⟩
    | dn h1 h2 h3 h4 h5 h6 h7 h8 h9 h10 a h11 b =>
      refine ⟨_, rfl, .inr ⟨_, _, _, _, h1, h2, h3, h4, h6, h7, ?_⟩⟩
      rw [keys_dn]
      · exact a
      · have e1 := a.length; have e2 := b.length; have e3 := vals_len h11
        simp only [List.length_map] at e1 e3
        omega
theorem each_of {R : Value → PyData → Prop} : ∀ {us : List Value} {ks : List PyData}, us.length = ks.length → (∀ (j : Nat) (v : Value), us[j]? = some v → ∃ d, ks[j]? = some d ∧ R v d) → EachIs R us ks
  | [], [], _, _ => .nil
  | u :: us, k :: ks, hl, h => by
    obtain ⟨d, e1, r⟩ := h 0 u rfl
    cases e1
    exact .cons r (each_of (by simpa using hl) fun j v e => h (j + 1) v (by simpa using e))
  | [], _ :: _, hl, _ => by simp at hl
  | _ :: _, [], hl, _ => by simp at hl
theorem each_vals {T : Kt} {F : Hp} : ∀ {us : List Value} {ks : List PyData}, EachIs (fun v d => ∃ x, RelV x v ∧ Rep T F d x) us ks → ∃ ys, Vals ys us ∧ RepAll T F ks ys
  | _, _, .nil => ⟨[], .nil, .nil⟩
  | _, _, .cons ⟨x, r1, r2⟩ t => by
    obtain ⟨ys, a, b⟩ := each_vals t
    exact ⟨x :: ys, .cons r1 a, .cons r2 b⟩
section
variable {X : Cx} {W : WX} {M : List Md} {k : Kd} {pos : Pos}
theorem keys_raw {pins : List (Addr × Obj)} {σ : St} {H F : Hp} {s : Shared} {a : Addr} {ks : List PyData} (I : Inv X pins σ H s) (h : KeysAt (kt X) H F a ks) :
    ∃ es ep, s.heap.DictRaw a es ep ∧ (a == sysModules) = false ∧ es.size = ks.length ∧ es.size ≤ sizeLine ∧ ∀ i (hi : i < es.size), ∃ d v, ks[i]? = some d ∧ RelV v es[i].key ∧ Rep (kt X) F d v := by
  rcases h with ⟨kvs, h, rfl⟩ | ⟨o, es, ep, ents, h, hx, hd, he, lo, hz, ra⟩
  · obtain ⟨z, lo, vs, rel, dd⟩ := dk_of I.hok h
    obtain ⟨es, ep, hr, hs, hi⟩ := dd.raw
    have el : kvs.length = vs.length := rel.length
    refine ⟨es, ep, hr, lo, by rw [hs, List.length_map, el], by rw [hs]; omega, fun i hlt => ?_⟩
    have hv : i < vs.length := by omega
    obtain ⟨k, v, e⟩ : ∃ k v, vs[i]? = some (k, v) := ⟨_, _, List.getElem?_eq_getElem hv⟩
    have ek : kvs[i]?.map (·.1) = some k := by
      have e2 := congrArg (·[i]?) rel.keys
      simp only [List.getElem?_map] at e2
      rw [e2, e]; rfl
    obtain ⟨p, hp, rfl⟩ := Option.map_eq_some_iff.mp ek
    refine ⟨kD p.1, kV p.1, by rw [List.getElem?_map, hp]; rfl, ?_, ?_⟩
    · rcases keyIs_shape (hi i hlt _ _ e).1 with ⟨n, t, e1, e2⟩ | ⟨n, t, e1, e2⟩ <;> rw [e1, e2] <;> exact ⟨t, rfl⟩
    · cases p.1 with
      | inl i => exact .int i
      | inr x => exact .str x
  · obtain ⟨ho, _, _⟩ := (show ObjOk X.prog X.w H s.heap a (exo a o) from I.hok a _ h)
    have hsz : es.size = ents.length := by rw [← Array.length_toList, he, List.length_map]
    have e1 := ra.length
    rw [List.length_map] at e1
    refine ⟨es, ep, ⟨o, ho, hx, hd⟩, lo, by omega, by omega, fun i hlt => ?_⟩
    have hlt' : i < ents.length := by omega
    obtain ⟨d, e2, r⟩ := ra.getV (i := i) (v := .ref ents[i].2.1) (by rw [List.getElem?_map, List.getElem?_eq_getElem hlt']; rfl)
    refine ⟨d, _, e2, ?_, r⟩
    have e3 : es.toList[i]? = some (entryOfKey (nestedKind X.prog X.w) ents[i]) := by rw [he, List.getElem?_map, List.getElem?_eq_getElem hlt']; rfl
    rw [Array.getElem?_toList, Array.getElem?_eq_getElem hlt] at e3
    rw [Option.some.inj e3]
    rfl
/-- sorted of a dict -/
theorem cr_sortD (hcalm : X.calm = true) (hu : X.A.units + 100 < cLine) : CallR X (.builtin "sorted") (fun xs H Q => ∃ (F : Hp) (a : Addr) (ks : List PyData), xs = [.ref a] ∧ Sub F H ∧ KeysAt (kt X) H F a ks ∧ sortOk ks = true ∧
    ∀ ys p, RepAll (kt X) F (sortD ks) ys → H p = none → Q (.ref p) (upd H p (.lst ys))) := by
  intro pins s σ H xs us Q I r q
  obtain ⟨F, a, ks, ex, hF, hk, hok, q⟩ := q
  subst ex
  obtain ⟨u, eu, rx⟩ := vals1 r
  subst eu
  cases rx
  obtain ⟨es, ep, hr, lo, hl, hz, hi⟩ := keys_raw I hk
  refine Calls.call_function_entry PyProof.Rows.kind_sorted PyProof.Rows.plain_sorted PyProof.Rows.entry_sorted (PyProof.Rows.args_sorted1 _) ?_
  unfold Builtin.«sorted»
  refine wpAny_bind (m := checkCount "sorted" 1 1 _) (wpAny_pure ?_)
  refine wpAny_bind (kdu_collect (A := X.A.in1) (KdlSrc.rawDict (prog := X.prog) (w := X.w) (es := es) (ep := ep) lo) (I.ok.hd hcalm) hr hz fun h' tk acc hkp hacc => ?_)
  have hal : acc.toList.length = ks.length := by rw [Array.length_toList, hacc.1, hl]
  have hE : EachIs (fun v d => ∃ x, RelV x v ∧ Rep (kt X) F d x) acc.toList ks := each_of hal fun j v e => by
    obtain ⟨hj, rfl⟩ := hacc.2 j v (by rw [← Array.getElem?_toList]; exact e)
    obtain ⟨d, x, e1, e2, e3⟩ := hi j hj
    exact ⟨d, e1, x, e2, e3⟩
  have I1 : Inv X pins σ H { s with heap := h', toks := tk } := I.kept hkp
  refine wpAny_bind (wpAny_newList ?_ (by rw [hal, ← hl]; exact hz))
  have hoL : (h'.push (PyProof.Rows.seqObj "list" acc.toList.toArray 0)).get? h'.objs.size = some (PyProof.Rows.seqObj "list" acc.toList.toArray 0) := Heap.get?_push_size _ rfl
  show wpAny _ _ _ _ _ { s with heap := h'.push (PyProof.Rows.seqObj "list" acc.toList.toArray 0), toks := tk }
  have hpl : ∀ d ∈ ks, d.plain = true := fun d hd => by
    unfold sortOk at hok
    simp only [Bool.and_eq_true] at hok
    have := List.all_eq_true.mp hok.1.1 d hd
    simp only [Bool.and_eq_true] at this
    exact this.1.1
  have hR : EachIs (fun v b => ∃ as, Reads (h'.push (PyProof.Rows.seqObj "list" acc.toList.toArray 0)) v b as ∧ h'.objs.size ∉ as) acc.toList ks := (each_mem hE).mono fun v d ⟨⟨x, r1, r2⟩, hd⟩ => by
    obtain ⟨as, ra⟩ := Rep.rd I1 (Rep.mono hF r2) (hpl d hd) r1
    refine ⟨as, PyProof.Rows.Reads.keeps (fun b o e => Heap.get?_push_of_some _ e) ra, fun z => ?_⟩
    obtain ⟨o, e⟩ := PyProof.On.reads_mem_get ra _ z
    exact absurd (Heap.lt_size e) (Nat.lt_irrefl _)
  refine wpAny_bind (wpAny_holding (sort_data (s := { s with heap := h'.push (PyProof.Rows.seqObj "list" acc.toList.toArray 0), toks := tk }) hoL hE hR hok (by rw [← hl]; exact hz) (by show X.A.units + 1 + 67 < cLine; omega) fun out hlo hout => ?_))
  obtain ⟨ys, g1, g2⟩ := each_vals hout
  obtain ⟨e', he'⟩ := PyProof.Rows.sortedHeap_at (vs := acc.toList) (out := List.toArray out) hoL
  have hlen : ys.length ≤ sizeLine := by rw [vals_len g1, hlo, ← hl]; exact hz
  refine wpAny_pure ⟨_, rfl, .ref h'.objs.size, upd H h'.objs.size (.lst ys), I1.laid (t' := tk) (fun b u e => ?_) (Nat.le_refl _)
    (show ObjOk X.prog X.w _ _ _ (.lst ys) from ⟨hlen, out, e', g1, he'⟩), rfl, q ys _ g2 (I1.hok.fresh (Nat.le_refl _))⟩
  have hb : b < h'.objs.size := Heap.lt_size e
  rw [PyProof.Rows.sortedHeap_old (Nat.ne_of_lt hb) (by rw [PyProof.Rows.size_push']; exact Nat.lt_succ_of_lt hb)]
  exact Heap.get?_push_of_some _ e
def gSorted : PyData → Option PyData
  | .dict ps => if sortOk (keysD ps) = true then some (.list (sortD (keysD ps))) else none
  | _ => none
theorem cd_sorted (hcalm : X.calm = true) (hu : X.A.units + 200 < cLine) : Cal1 X M .fr (.builtin "sorted") gSorted := by
  refine ⟨_, cr_sortD hcalm (by omega), fun W G F ρ σ H x dx d Q S bx e p => ?_⟩
  unfold gSorted at e
  split at e
  · split at e
    · rename_i hok
      cases e
      obtain ⟨a, rfl, hk⟩ := keys_brw bx S.fh
      exact ⟨F, a, _, rfl, S.fh, hk, hok, fun ys q hr hq => new_lst S hr p hq⟩
    · cases e
  · cases e
end
end PD

set_option Elab.async false
set_option linter.all false
set_option maxRecDepth 100000
set_option maxHeartbeats 2000000
set_option autoImplicit false
namespace PD
open PySem L2 PySem.Spec

section
variable {X : Cx} {W : WX} {M : List Md} {k : Kd} {pos : Pos}
/-! ### {}, d[k] = v -/
theorem new_dk {G F H : Hp} {ρ : Env} {σ : St} {Q : VK} {kvs : List (Key × V)} {ds : List PyData} (S : SR (kt X) M G F ρ σ H) (r : RepAll (kt X) F ds (kvs.map (·.2)))
    (h : Post X W M G F σ (.ok (PyData.dict (zk kvs ds)) ρ) fun d ρ' F' H' => ∀ v, ResK .fr (kt X) M G F' H' ρ' σ v d → Q v H') {p : Addr} (hp : H p = none) : Q (.ref p) (upd H p (.dK kvs)) := by
  refine h F _ Sub.rfl' (S.fresh hp) _ ⟨fun q => (by cases q), fun _ => ⟨p, rfl, S.gh.none hp, S.fh.none hp, .dk upd_same r, fun i o => ?_⟩⟩
  obtain ⟨_, _, u, hu⟩ := S.own o
  rw [hp] at hu; cases hu
theorem px_dnew : PX X W M .fr (.Dict [] [] pos) (dC (.dict [])) :=
  ⟨_, pe_dnewK, fun G F ρ σ H Q S w p hp => new_dk (kvs := []) (ds := []) S .nil w hp⟩
def dStK (j : Nat) (fv fi : Den) : DenS := fun ρ => (fv ρ).bind fun v ρ => (dVar j ρ).bind fun _ ρ => (fi ρ).bind fun i ρ => match ρ[j]?, toKey i with
  | some (some (.dict ps)), some k => if isN ps = false ∧ ps.length < sizeLine then .ok .nx (ρ.set j (some (.dict (dput ps k v)))) else .bad
  | _, _ => .bad
theorem psx_stK {j : Nat} {y : Str} {m : Md} {i e : Expr} {fi fe : Den} {py p2 : Pos} (hu : X.A.units + 1 < cLine) (hj : X.N[j]? = some y) (hv : Vis X.env.scope y) (hm : M[j]? = some m) (hi : PX X W M .sh i fi) (he : PX X W M .sh e fe) (ho : m.own = true := by rfl) (hd : (y == ("__debug__" : Str)) = false := by decide) (hcd : (y == ("__classdict__" : Str)) = false := by decide)
    (hs : swapsWith e (some (.Subscript (.Name y py) i p2)) pos.line X.env = pure false := by rfl) : PSX X W M k (.Assign [.Subscript (.Name y py) i p2] e pos) (dStK j fe fi) := by
  obtain ⟨t, p, q⟩ := he
  obtain ⟨u, p', q'⟩ := hi
  refine ⟨_, ps_dput hu (pe_var hj hv hd hcd) p' p hs, fun G F ρ σ H D S w => q _ _ _ _ _ _ S ((PostS.bind w).imp fun v ρ1 F1 H1 _ S1 w1 x rx => ?_)⟩
  unfold dVar at w1
  split at w1
  · rename_i d0 h0
    obtain ⟨a, e1, _, _, _⟩ := S1.top hm ho h0
    refine ⟨_, e1, ?_⟩
    have w1 : PostS X W M k G F1 σ ((fi ρ1).bind _) D := w1
    refine q' _ _ _ _ _ _ S1 ((PostS.bind w1).imp fun z ρ2 F2 H2 s2 S2 w2 y2 ry => ?_)
    split at w2
    · rename_i ps key hx hk
      split at w2
      · rename_i hc
        obtain ⟨a', e2, _, _, t1⟩ := S2.top hm ho hx
        rw [e1] at e2; cases e2
        obtain ⟨kvs, ds, h2, r2, rfl⟩ := top_dk t1 hc.1
        have hl : ds.length = kvs.length := by simpa using r2.length
        obtain ⟨ds', r', e'⟩ := zk_put (k := key) r2 (Rep.mono s2 rx)
        rw [e'] at w2
        refine ⟨a, _, rfl, by rw [toKey_rep ry hk]; exact DPut.k h2 (by rw [← zk_len hl]; exact hc.2), ?_⟩
        exact w2 F2 _ σ Sub.rfl' (S2.write hm ho hx e1 (.dk upd_same r')) Keep.rfl'
      · exact w2.elim
    · exact w2.elim
  · exact w1.elim
/-! ### d.get -/
def dGet1 (fa fb : Den) : Den := fun ρ => (fa ρ).bind fun d ρ => match d with
  | .dict ps => if isN ps = true then .bad else (fb ρ).bind fun y ρ => match toKey y with
    | some k => .ok ((dfind ps k).getD .none) ρ
    | none => .bad
  | _ => .bad
def dGet2 (fa fb fc : Den) : Den := fun ρ => (fa ρ).bind fun d ρ => match d with
  | .dict ps => if isN ps = true then .bad else (fb ρ).bind fun y ρ => (fc ρ).bind fun z ρ => match toKey y with
    | some k => .ok ((dfind ps k).getD z) ρ
    | none => .bad
  | _ => .bad
theorem px_dget1 {o e : Expr} {fo fe : Den} {ap : Pos} (hu : X.A.units + 1 < cLine) (ho : PX X W M .sh o fo) (he : PX X W M .sh e fe) (m : M1 X o "get" ap e pos) : PX X W M .sh (.Call (.Attribute o "get" ap) [e] [] pos) (dGet1 fo fe) := by
  obtain ⟨t, p, q⟩ := ho
  obtain ⟨u, p', q'⟩ := he
  refine ⟨_, pe_dget1 hu p p' m, fun G F ρ σ H Q S w => q _ _ _ _ _ _ S ((Post.bind w).imp fun d ρ1 F1 H1 _ S1 w1 v r => ?_)⟩
  split at w1
  · split at w1
    · exact w1.elim
    · rename_i ps hn
      obtain ⟨a, kvs, ds, rfl, h1, r1, rfl⟩ := rep_dk r (by simpa using hn)
      refine ⟨a, rfl, .inl ⟨kvs, .inl (S1.fh _ _ h1)⟩, ?_⟩
      refine q' _ _ _ _ _ _ S1 ((Post.bind w1).imp fun y ρ2 F2 H2 s2 S2 w2 z rz => ?_)
      split at w2
      · rename_i key hk
        rw [toKey_rep rz hk]
        refine ⟨_, DGet.k (S2.fh _ _ (s2 _ _ h1)), ?_⟩
        rcases zk_find key r1 with ⟨d', v, e1, e2, r2⟩ | ⟨e1, e2⟩
        · rw [e1] at w2; rw [e2]; exact w2.now S2 v (r2.mono s2)
        · rw [e1] at w2; rw [e2]; exact w2.now S2 .non .non
      · exact w2.elim
  · exact w1.elim
theorem px_dget2 {o e f : Expr} {fo fe ff : Den} {ap : Pos} (hu : X.A.units + 1 < cLine) (ho : PX X W M .sh o fo) (he : PX X W M .sh e fe) (hf : PX X W M .sh f ff) (m : M2 X o "get" ap e f pos) : PX X W M .sh (.Call (.Attribute o "get" ap) [e, f] [] pos) (dGet2 fo fe ff) := by
  obtain ⟨t, p, q⟩ := ho
  obtain ⟨u, p', q'⟩ := he
  obtain ⟨u2, p2, q2⟩ := hf
  refine ⟨_, pe_dget2 hu p p' p2 m, fun G F ρ σ H Q S w => q _ _ _ _ _ _ S ((Post.bind w).imp fun d ρ1 F1 H1 _ S1 w1 v r => ?_)⟩
  split at w1
  · split at w1
    · exact w1.elim
    · rename_i ps hn
      obtain ⟨a, kvs, ds, rfl, h1, r1, rfl⟩ := rep_dk r (by simpa using hn)
      refine ⟨a, rfl, .inl ⟨kvs, .inl (S1.fh _ _ h1)⟩, ?_⟩
      refine q' _ _ _ _ _ _ S1 ((Post.bind w1).imp fun y ρ2 F2 H2 s2 S2 w2 z rz => ?_)
      refine q2 _ _ _ _ _ _ S2 ((Post.bind w2).imp fun x ρ3 F3 H3 s3 S3 w3 z3 rz3 => ?_)
      split at w3
      · rename_i key hk
        rw [toKey_rep rz hk]
        refine ⟨_, DGet.k (S3.fh _ _ (s3 _ _ (s2 _ _ h1))), ?_⟩
        rcases zk_find key r1 with ⟨d', v, e1, e2, r2⟩ | ⟨e1, e2⟩
        · rw [e1] at w3; rw [e2]; exact w3.now S3 v (r2.mono (s2.tr s3))
        · rw [e1] at w3; rw [e2]; exact w3.now S3 z3 rz3
      · exact w3.elim
  · exact w1.elim
end
/-! ### a module's dict, texts to ints -/
def diB : List DictEntry → List (Str × Int) → Bool
  | [], [] => true
  | e :: es, (x, i) :: kvs => (match e.key, e.val with
    | .str y _, .int j _ => decide (y = x) && decide (j = i)
    | _, _ => false) && diB es kvs
  | _, _ => false
def DiC (K : PySem.W.Frag) (w : World) (mg : Str → Option Value) (x : Str) (kvs : List (Str × Int)) : Prop := ∃ a es n, mg x = some (.ref a) ∧ KDict K w a es n ∧ diB es.toList kvs = true
def diFind (kvs : List (Str × Int)) (z : Str) : Option Int := (kvs.find? fun p => decide (p.1 = z)).map (·.2)
theorem di_find (z : Str) : ∀ {es : List DictEntry} {kvs : List (Str × Int)}, diB es kvs = true → (∃ e i t, es.find? (fun e => e.key.isStr z) = some e ∧ e.val = .int i t ∧ diFind kvs z = some i) ∨ (es.find? (fun e => e.key.isStr z) = none ∧ diFind kvs z = none ∧ es.any (·.refKey) = false)
  | [], [], _ => .inr ⟨rfl, rfl, rfl⟩
  | e :: es, (x, i) :: kvs, h => by
    unfold diB at h
    rw [Bool.and_eq_true] at h
    obtain ⟨h1, h2⟩ := h
    split at h1
    · rename_i y t j u hk hv
      simp only [Bool.and_eq_true, decide_eq_true_eq] at h1
      obtain ⟨rfl, rfl⟩ := h1
      have ek : ∀ q, e.key.isStr q = decide (y = q) := fun q => by rw [hk]; show (y == q) = _; rw [Bool.beq_eq_decide_eq]
      by_cases c : y = z
      · refine .inl ⟨e, j, u, ?_, hv, ?_⟩
        · rw [List.find?_cons_of_pos]; rw [ek]; simpa using c
        · simp [diFind, c]
      · have c2 : diFind ((y, j) :: kvs) z = diFind kvs z := by simp [diFind, c]
        have c1 : (e :: es).find? (fun e => e.key.isStr z) = es.find? (fun e => e.key.isStr z) := by rw [List.find?_cons_of_neg]; rw [ek]; simpa using c
        rw [c1, c2]
        rcases di_find z h2 with q | ⟨a, b, c⟩
        · exact .inl q
        · refine .inr ⟨a, b, ?_⟩
          rw [List.any_cons, c, Bool.or_false]
          unfold DictEntry.refKey
          rw [hk]
    · cases h1
  | [], _ :: _, h => by cases h
  | _ :: _, [], h => by cases h
theorem di_ns {K : PySem.W.Frag} {w : World} {a : Addr} {es : Array DictEntry} {n : Nat} {kvs : List (Str × Int)} (D : KDict K w a es n) (h : diB es.toList kvs = true) (z : Str) : (∃ i t, PySem.W.nsIn K a z = some (some (.int i t)) ∧ diFind kvs z = some i) ∨ (PySem.W.nsIn K a z = some none ∧ diFind kvs z = none) := by
  unfold PySem.W.nsIn
  rw [D.at_]
  dsimp only
  rcases di_find z h with ⟨e, i, t, h1, h2, h3⟩ | ⟨h1, h2, h3⟩
  · exact .inl ⟨i, t, by rw [h1]; dsimp only; rw [h2], h3⟩
  · refine .inr ⟨?_, h2⟩
    rw [h1]; dsimp only; rw [h3]; rfl
section
variable {X : Cx} {W : WX} {M : List Md} {k : Kd} {pos : Pos} {N : List Str} {sc : Scope} {fn : Str → Bool}
def dInC (kvs : List (Str × Int)) (f : Den) : Den := fun ρ => (f ρ).bind fun d ρ => match d with
  | .str z => .ok (.bool (diFind kvs z).isSome) ρ
  | _ => .bad
theorem inC_both {x : Str} {p : Pos} {e : Expr} {f : Den} {kvs : List (Str × Int)} (c : CF X N sc fn) (D : DiC X.K X.w X.mg x kvs) (hg : okG sc x = true) (he : PX X W M .sh e f) (hm : behindInMarks .In (.Name x p) = false) :
    ∃ (r : R2) (ta tb : TE), OpR X (compareOp .In) r ∧ PE X e ta ∧ PE X (.Name x p) tb ∧ ∀ G F ρ σ H Q, SR (kt X) M G F ρ σ H → Post X W M G F σ (dInC kvs f ρ) (fun d ρ' F' H' => ∀ v, ResK k (kt X) M G F' H' ρ' σ v d → Q v H') → tOp r ta tb σ H Q := by
  obtain ⟨t, pt, q⟩ := he
  obtain ⟨a, es, n, h1, h2, h3⟩ := D
  refine ⟨_, _, _, op_in_kd h2, pt, pe_glob (v := .ref a) (c.gl (okG_g hg)) h1 rfl (okG_d hg), fun G F ρ σ H Q S w => q _ _ _ _ _ _ S ((Post.bind w).imp fun d ρ1 F1 H1 _ S1 w1 v r => ?_)⟩
  split at w1
  · rename_i z
    cases r
    rcases di_ns h2 h3 z with ⟨i, t', e1, e2⟩ | ⟨e1, e2⟩
    · rw [e2] at w1; exact ⟨z, _, rfl, rfl, e1, w1.now S1 _ (ResK.sc (.bl true) rfl)⟩
    · rw [e2] at w1; exact ⟨z, _, rfl, rfl, e1, w1.now S1 _ (ResK.sc (.bl false) rfl)⟩
  · exact w1.elim
theorem px_inC {x : Str} {p : Pos} {e : Expr} {f : Den} {kvs : List (Str × Int)} (c : CF X N sc fn) (D : DiC X.K X.w X.mg x kvs) (hg : okG sc x = true) (he : PX X W M .sh e f) (hm : behindInMarks .In (.Name x p) = false) : PX X W M k (.Compare e [.In] [.Name x p] pos) (dInC kvs f) := by
  obtain ⟨r, ta, tb, o, pa, pb, q⟩ := inC_both c D hg he hm
  exact ⟨_, pe_cmpR o pa pb hm, q⟩
theorem pxt_inC {x : Str} {p : Pos} {e : Expr} {f : Den} {kvs : List (Str × Int)} (c : CF X N sc fn) (D : DiC X.K X.w X.mg x kvs) (hg : okG sc x = true) (he : PX X W M .sh e f) (hm : behindInMarks .In (.Name x p) = false) : PXT X W M (.Compare e [.In] [.Name x p] pos) (dB (dInC kvs f)) := by
  obtain ⟨r, ta, tb, o, pa, pb, q⟩ := inC_both (k := .ow) c D hg he hm
  refine ⟨_, pt_cmpR o pa pb hm, fun G F ρ σ H Q S w => q _ _ _ _ _ _ S ((Post.bind w).imp fun d ρ1 F1 H1 _ S1 w1 v r => ?_)⟩
  split at w1
  · exact ⟨_, rep_bl r, w1.now S1⟩
  · exact w1.elim
/-- NAME.get(e) -/
def dGetC (kvs : List (Str × Int)) (f : Den) : Den := fun ρ => (f ρ).bind fun d ρ => match d with
  | .str z => .ok (match diFind kvs z with | some i => .int i | none => .none) ρ
  | _ => .bad
def tKGet (K : PySem.W.Frag) (a : Addr) (ty : TE) : TE := fun σ H Q => ty σ H fun y H1 => ∃ z r v, y = .str z ∧ PySem.W.nsIn K a z = some r ∧ RelV v (r.getD .none) ∧ Q v H1
theorem pe_kget {o e : Expr} {ap : Pos} {a : Addr} {es : Array DictEntry} {n : Nat} {ty : TE} (D : KDict X.K X.w a es n) (ho : PE X o (tC (.ref a))) (he : PE X e ty) (m : M1 X o "get" ap e pos) : PE X (.Call (.Attribute o "get" ap) [e] [] pos) (tKGet X.K a ty) := by
  refine ⟨fun pins s σ H Q I h => ?_⟩
  refine wpAny_Call_method m.base m.few m.line PySem.F.plainAttrs_dict PySem.F.slot_dict_get PySem.F.type_dict_get (thn (ho.run pins s σ H (fun v H1 => v = .ref a ∧ H1 = H) I ⟨rfl, rfl⟩) fun u s1 ⟨x, H1, I1, rx, ex, eH⟩ => ?_)
  subst ex
  subst eH
  obtain rfl : u = Value.ref a := rx
  have mo := PySem.W.mapOf_K (prog := X.prog) (w := X.w) I1.kIn D.at_ D.lit
  refine ⟨mo.typeIs, mo.noDict, ?_⟩
  rw [m.trees]
  refine Calls.callWith_builtin rfl (Calls.evalArgs_plain (Calls.spliced_cons (thn (he.run pins s1 σ H1 _ I1 h) fun iv s2 ⟨y, H2, I2, ry, z, r, v, ey, en, rv, q2⟩ => Calls.spliced_nil ?_)))
  subst ey
  obtain ⟨t, rfl⟩ := ry
  have mo2 := PySem.W.mapOf_K (prog := X.prog) (w := X.w) I2.kIn D.at_ D.lit
  refine call_meetsIn PySem.F.slot_dict_get mo2.typeIs PySem.F.entry_dict_get (PySem.F.args_dict_get_2 _ _) (meets_dict_get (strKind X.prog X.w) a (strKind_is X.prog X.w z t) D.low) ⟨_, mo2, ?_⟩
  rw [PySem.W.find_K D.at_ en]
  exact ⟨v, H2, I2.tok _, rv, q2⟩
theorem px_getC {x : Str} {p : Pos} {e : Expr} {f : Den} {ap : Pos} {kvs : List (Str × Int)} (c : CF X N sc fn) (D : DiC X.K X.w X.mg x kvs) (hg : okG sc x = true) (he : PX X W M .sh e f) (m : M1 X (.Name x p) "get" ap e pos) : PX X W M k (.Call (.Attribute (.Name x p) "get" ap) [e] [] pos) (dGetC kvs f) := by
  obtain ⟨t, pt, q⟩ := he
  obtain ⟨a, es, n, h1, h2, h3⟩ := D
  refine ⟨_, pe_kget h2 (pe_glob (v := .ref a) (c.gl (okG_g hg)) h1 rfl (okG_d hg)) pt m, fun G F ρ σ H Q S w => q _ _ _ _ _ _ S ((Post.bind w).imp fun d ρ1 F1 H1 _ S1 w1 v r => ?_)⟩
  split at w1
  · rename_i z
    cases r
    rcases di_ns h2 h3 z with ⟨i, t', e1, e2⟩ | ⟨e1, e2⟩
    · rw [e2] at w1; exact ⟨z, _, .int i, rfl, e1, ⟨t', rfl⟩, w1.now S1 _ (ResK.sc (.int i) rfl)⟩
    · rw [e2] at w1; exact ⟨z, _, .non, rfl, e1, rfl, w1.now S1 _ (ResK.sc .non rfl)⟩
  · exact w1.elim
end
end PD

set_option Elab.async false
set_option linter.all false
set_option maxRecDepth 100000
set_option maxHeartbeats 2000000
set_option autoImplicit false
namespace PD
open PySem L2 PySem.Spec

/-! ### built-ins' names -/
theorem bt_len : bootBuiltins "len" = some (.builtin "len") := by decide +kernel
theorem bt_all : bootBuiltins "all" = some (.builtin "all") := by decide +kernel
theorem bt_any : bootBuiltins "any" = some (.builtin "any") := by decide +kernel
theorem bt_sum : bootBuiltins "sum" = some (.builtin "sum") := by decide +kernel
theorem bt_min : bootBuiltins "min" = some (.builtin "min") := by decide +kernel
theorem bt_max : bootBuiltins "max" = some (.builtin "max") := by decide +kernel
theorem bt_sorted : bootBuiltins "sorted" = some (.builtin "sorted") := by decide +kernel
theorem bt_tuple : bootBuiltins "tuple" = some (.type "tuple") := by decide +kernel
theorem bt_list : bootBuiltins "list" = some (.type "list") := by decide +kernel
theorem bt_int : bootBuiltins "int" = some (.type "int") := by decide +kernel
theorem bt_dict : bootBuiltins "dict" = some (.type "dict") := by decide +kernel
theorem bt_str : bootBuiltins "str" = some (.type "str") := by decide +kernel

section
variable {X : Cx} {W : WX} {M : List Md} {k : Kd} {pos : Pos} {N : List Str} {sc : Scope} {fn : Str → Bool}
/-! ### return of an own slot -/
def dRetO (i : Nat) : DenS := fun ρ => match ρ[i]? with
  | some (some d) => if isMut d = true then .ok (.rt d) (ρ.set i none) else .bad
  | _ => .bad
theorem psx_retO {i : Nat} {x : Str} {p : Pos} (hi : X.N[i]? = some x) (hv : Vis X.env.scope x) (hm : M[i]? = some .ow) (hd : (x == ("__debug__" : Str)) = false := by decide) (hcd : (x == ("__classdict__" : Str)) = false := by decide) : PSX X W M .fr (.Return (some (.Name x p)) pos) (dRetO i) := by
  refine ⟨_, ps_ret (pe_var hi hv hd hcd), fun G F ρ σ H D S w => ?_⟩
  unfold dRetO at w
  split at w
  · rename_i d hx
    split at w
    · rename_i hmu
      obtain ⟨a, e, g, f, t⟩ := S.top hm rfl hx
      refine ⟨_, e, ?_⟩
      have S' : SR (kt X) M G F (ρ.set i none) σ H := S.forget (by rw [List.length_set]) rfl fun j d' hd' => by
        by_cases q : i = j
        · subst q
          have hl : i < ρ.length := (List.getElem?_eq_some_iff.mp hx).1
          rw [List.getElem?_set_self hl] at hd'; cases hd'
        · rw [List.getElem?_set_ne q] at hd'
          exact ⟨hd', rfl⟩
      refine w F H σ _ Sub.rfl' S' Keep.rfl' ⟨fun z => (by rw [hmu] at z; cases z), fun _ => ⟨a, rfl, g, f, t, fun j oj => ?_⟩⟩
      obtain ⟨m', d', h1, h2, h3, h4⟩ := oj
      by_cases q : i = j
      · subst q
        have hl : i < ρ.length := (List.getElem?_eq_some_iff.mp hx).1
        rw [List.getElem?_set_self hl] at h3; cases h3
      · rw [List.getElem?_set_ne q] at h3
        exact q (S.ap i j a ⟨.ow, d, hm, rfl, hx, e⟩ ⟨m', d', h1, h2, h3, h4⟩)
    · exact w.elim
  · exact w.elim
theorem wretO {i : Nat} {x : Str} {p : Pos} (c : CF X N sc fn) (hi : N[i]? = some x) (hm : M[i]? = some .ow) (h : okV sc x = true) : PSX X W M .fr (.Return (some (.Name x p)) pos) (dRetO i) := psx_retO (c.hi hi) (c.hv (okV_vis h)) hm (okV_d h) (okV_c h)

/-! ### a, *b = a tuple -/
open PyProof.Rows PySem.W in
theorem star_draw {A : Around} {E : Value → Shared → Prop} {s : Shared} {prog : Program} {w : World} {l : Addr} {x : Value} {xs : List Value} {Q : List Value → Shared → Prop} (hl : IsTup s.heap l (x :: xs).toArray) (hh : A.handled = none) (hz : xs.length + 1 ≤ sizeLine)
    (h : ∀ (h' : Heap) (tk : Nat), (∀ b o, s.heap.get? b = some o → h'.get? b = some o) → Q [x, .ref h'.objs.size] { s with heap := h'.push { cls := .type "list", data := .seq xs.toArray }, toks := tk }) : wpAny (model prog w) A (unpackItems (.ref l) 2 (some 1)) Q E s := by
  have hlt : l < s.heap.objs.size := let ⟨_, ho, _⟩ := hl; Heap.lt_size ho
  have hne := Nat.ne_of_lt hlt
  have hsz : (x :: xs).toArray.size = xs.length + 1 := by simp
  unfold unpackItems
  refine wpAny_bind ?_
  unfold notIterableAtAll
  refine wpAny_bind (wpAny_specialOf hl.typeIs slot_tuple_iter.lookup (wpAny_pure ?_))
  simp only [Bool.false_eq_true, if_false]
  refine wpAny_bind (wpAny_holding (iter_tuple hl ?_))
  refine wpAny_bind (wpAny_holding (draw_tuple hne 1 0 _ _ ⟨_, Heap.get?_push_size _ rfl, rfl, rfl⟩ (hl.push _) (by rw [hsz]; omega) fun h₁ it₁ sb => ?_))
  have tp₁ : IsTup h₁ l (x :: xs).toArray := (hl.push _).extBut sb.extBut hne
  have e1 : (List.drop 0 (x :: xs).toArray.toList).take 1 = [x] := rfl
  rw [e1]
  obtain ⟨oi, hoi, _⟩ := id it₁
  obtain ⟨ol, hol, _⟩ := id tp₁
  show wpAny _ _ (if [x].length < 1 then _ else _) _ _ _
  rw [if_neg (by simp)]
  refine wpAny_bind (wpAny_holding (kun_collect (k := 1) (items := (x :: xs).toArray) (s := { s with heap := h₁ }) (T := "tuple_iterator") (.inr (.inr (.inr rfl))) (Walks.tuple (A := A.in1) hh s.heap.objs.size l hne _) (fun j u st => st.1.typeIs) (by rw [hsz]; omega) ⟨it₁, tp₁⟩ (Heap.lt_size hoi) (Heap.lt_size hol) (fun h₂ tk hk => ?_) (by rw [hsz]; exact hz)))
  have e2 : (x :: xs).toArray.toList.drop 1 = xs := rfl
  rw [e2]
  show wpAny _ _ (if xs.length < 0 then _ else _) _ _ _
  rw [if_neg (Nat.not_lt_zero _)]
  show wpAny _ _ (newList (xs.take (xs.length - 0)) >>= fun d => pure ([x] ++ [d] ++ xs.drop (xs.length - 0))) _ _ _
  rw [Nat.sub_zero, List.take_length, List.drop_length]
  refine wpAny_bind (wpAny_newList (wpAny_pure (h h₂ tk fun b o e => ?_)) (by omega))
  exact hk b o (Nat.ne_of_lt (Heap.lt_size e)) (sb.extBut b o (Nat.ne_of_lt (Heap.lt_size e)) (Heap.get?_push_of_some _ e))
def gStar (K : PySem.W.Frag) (t : TGs) : TG := fun v σ H Q => ∃ a x xs, v = .ref a ∧ SqT K H a (x :: xs) ∧ ∀ D, H D = none → t [x, .ref D] σ (upd H D (.lst xs)) Q
theorem pg_star {e1 e2 : Expr} {p : Pos} {kk : Nat} {t : TGs} (hc : X.calm = true) (h : PGs X [e1, e2] t) (hn : (assignEach [e1, .Starred e2 p] X.env).length = 2 := by rfl) (hst : (assignEach [e1, .Starred e2 p] X.env).findIdx? (·.1) = some 1 := by rfl)
    (he : (assignEach [e1, .Starred e2 p] X.env).map (·.2) = (assignEach [e1, e2] X.env).map (·.2) := by rfl) : PG X (.Tuple [e1, .Starred e2 p] kk pos) (gStar X.K t) := by
  refine ⟨fun pins s σ H v u Q I r hw => ?_⟩
  obtain ⟨a, x, xs, ev, hq, hw⟩ := hw
  subst ev
  cases r
  obtain ⟨its, rv, ht, hz⟩ := I.tuple hq
  cases rv with
  | cons rx rxs =>
    rename_i u us
    rw [PyProof.Rows.assign_Tuple]
    refine wpAny_bind (wpAny_standAt ?_)
    unfold unpack
    rw [hn, hst, he]
    have el := rxs.length
    have hz' : us.length + 1 ≤ sizeLine := by simp at hz; omega
    refine wpAny_bind (wpAny_holding (star_draw ht (I.ok.hd hc) hz' fun h' tk k => ?_))
    have I1 : Inv X pins σ H { s with heap := h', toks := tk } := I.kept (t' := tk) k
    have I2 : Inv X pins σ (upd H h'.objs.size (.lst xs)) { s with heap := h'.push { cls := .type "list", data := .seq us.toArray }, toks := tk } :=
      I1.laid (t' := tk) (fun b o e => Heap.get?_push_of_some _ e) (Nat.le_refl _) ⟨by omega, us, 0, rxs, Heap.get?_push_size _ rfl⟩
    exact h.run pins _ σ _ [x, .ref h'.objs.size] [u, .ref h'.objs.size] Q I2 (.cons rx (.cons rfl .nil)) (hw _ (I1.hok.fresh (Nat.le_refl _)))
def tStar (g : List PyData → Env → Option Env) : PyData → Env → Option Env
  | .tuple (d :: ds), ρ => g [d, .list ds] ρ
  | _, _ => none
theorem psx_star {e1 e2 e : Expr} {p p2 : Pos} {kk : Nat} {f : Den} {vs : List Nat} {g : List PyData → Env → Option Env} (hc : X.calm = true) (h : PX X W M .sh e f) (hg : PGsX X M [e1, e2] vs g) (hn : (assignEach [e1, .Starred e2 p] X.env).length = 2 := by rfl) (hst : (assignEach [e1, .Starred e2 p] X.env).findIdx? (·.1) = some 1 := by rfl)
    (he : (assignEach [e1, .Starred e2 p] X.env).map (·.2) = (assignEach [e1, e2] X.env).map (·.2) := by rfl)
    (hs : swapsWithSole [.Tuple [e1, .Starred e2 p] kk p2] e pos.line X.env = pure false := by rfl) (hw : swappedStores [.Tuple [e1, .Starred e2 p] kk p2] e X.env = pure none := by rfl)
    (h1 : (assignEach [.Tuple [e1, .Starred e2 p] kk p2] X.env).map (·.2) = [assign (.Tuple [e1, .Starred e2 p] kk p2) X.env] := by rfl) : PSX X W M k (.Assign [.Tuple [e1, .Starred e2 p] kk p2] e pos) (dAsg f (tStar g)) := by
  obtain ⟨t, pt, q⟩ := h
  obtain ⟨u, p', q'⟩ := hg
  refine ⟨_, ps_asg pt (pg_star hc p' hn hst he) hs hw h1, fun G F ρ σ H D S w => q _ _ _ _ _ _ S ((PostS.bind w).imp fun d ρ1 F1 H1 _ S1 w1 v r => ?_)⟩
  split at w1
  · rename_i ρ' e'
    unfold tStar at e'
    split at e'
    · cases r with
      | tup ht ra =>
        rename_i d0 ds0 a xs
        cases ra with
        | cons r1 r2 =>
          rename_i v1 vs1
          refine ⟨_, _, _, rfl, tupC_sq (sub_c S1.fh ht), fun D' hD => ?_⟩
          have sF : Sub F1 (upd F1 D' (.lst vs1)) := Sub.mk (S1.fh.none hD)
          refine q' _ _ _ _ _ _ _ _ _ (S1.laid hD) (.cons (r1.mono sF) (.cons (.lst (.inl upd_same) (r2.mono sF)) .nil)) e' fun σ' S' k' _ => w1 _ _ σ' sF S' k'
    · cases e'
  · exact w1.elim
end
end PD

set_option Elab.async false
set_option linter.all false
set_option maxRecDepth 100000
set_option maxHeartbeats 2000000
set_option autoImplicit false
namespace PD
open PySem L2 PySem.Spec

/-! ### dict(t), t a tuple of pairs -/
def pairsD : List PyData → Option (List (Key × PyData))
  | [] => some []
  | .tuple [a, v] :: r => (toKey a).bind fun k => (pairsD r).map fun l => (k, v) :: l
  | _ => none
def dmerge (ps : Ps) (l : List (Key × PyData)) : Ps := l.foldl (fun acc kv => dput acc kv.1 kv.2) ps
def gDictT : PyData → Option PyData
  | .tuple ds => (pairsD ds).map fun l => .dict (dmerge [] l)
  | _ => none
theorem zk_merge {T : Kt} {F : Hp} : ∀ {l : List (Key × PyData)} {vs : List V} {kvs : List (Key × V)} {ds : List PyData}, RepAll T F ds (kvs.map (·.2)) → RepAll T F (l.map (·.2)) vs →
    ∃ ds', RepAll T F ds' ((mergeK kvs (List.zipWith (fun a v => (a.1, v)) l vs)).map (·.2)) ∧ dmerge (zk kvs ds) l = zk (mergeK kvs (List.zipWith (fun a v => (a.1, v)) l vs)) ds'
  | [], vs, kvs, ds, r, rl => by
    cases rl
    exact ⟨ds, r, rfl⟩
  | (k, d) :: l, _, kvs, ds, r, rl => by
    cases rl with
    | cons h t =>
      rename_i v vs
      obtain ⟨ds1, r1, e1⟩ := zk_put (k := k) r h
      obtain ⟨ds2, r2, e2⟩ := zk_merge (l := l) (vs := vs) r1 t
      refine ⟨ds2, r2, ?_⟩
      show dmerge (dput (zk kvs ds) k d) l = _
      rw [e1]
      exact e2
section
variable {X : Cx} {W : WX} {M : List Md} {k : Kd} {pos : Pos} {N : List Str} {sc : Scope} {fn : Str → Bool}
theorem pairs_raw {pins : List (Addr × Obj)} {σ : St} {H : Hp} {s : Shared} (I : Inv X pins σ H s) : ∀ {ps : List Addr} {kvs : List (Key × V)}, Paired (fun p kv => SqT X.K H p [kV kv.1, kv.2]) ps kvs →
    ∃ (rp : List (Value × Value)) (prs : List (Key × Value)), KV kvs prs ∧ rp.length = ps.length ∧ prs.length = ps.length ∧ ∀ (j : Nat) (u v : Value), rp[j]? = some (u, v) → ∃ b key, ps[j]? = some b ∧ PyProof.Rows.IsTup s.heap b #[u, v] ∧ prs[j]? = some (key, v) ∧ keyIs key u = true
  | _, _, .nil => ⟨[], [], .nil, rfl, rfl, fun j u v e => by simp at e⟩
  | _, _, .cons (a := p) (b := kv) h t => by
    obtain ⟨rp, prs, r, l1, l2, hp⟩ := pairs_raw I t
    obtain ⟨its, rv, ht, _⟩ := I.tuple h
    obtain ⟨u, y, ei, ru, ry⟩ := vals2 rv
    subst ei
    refine ⟨(u, y) :: rp, (kv.1, y) :: prs, .cons ⟨rfl, ry⟩ r, by simp [l1], by simp [l2], fun j u' v' e => ?_⟩
    cases j with
    | zero =>
      cases (Option.some.inj e : (u, y) = (u', v'))
      exact ⟨p, kv.1, rfl, ht, rfl, kV_is (P := X.prog) (w := X.w) ru⟩
    | succ j =>
      obtain ⟨b, key, e1, e2, e3, e4⟩ := hp j u' v' (by simpa using e)
      exact ⟨b, key, by simpa using e1, e2, by simpa using e3, e4⟩
theorem call_dictC (hcalm : X.calm = true) : CallR X (.type "dict") (fun xs H Q => ∃ (a : Addr) (ps : List Addr) (kvs : List (Key × V)), xs = [.ref a] ∧ TupC X.K H a (ps.map V.ref) ∧ Paired (fun p kv => SqT X.K H p [kV kv.1, kv.2]) ps kvs ∧
    ∀ p, H p = none → Q (.ref p) (upd H p (.dK (mergeK [] kvs)))) := by
  intro pins s σ H xs us Q I r q
  obtain ⟨a, ps, kvs, ex, hq, hp, q⟩ := q
  subst ex
  obtain ⟨u, eu, rx⟩ := vals1 r
  subst eu
  cases rx
  obtain ⟨o, its, n, ho, hc, hd, hdat, rv, hz⟩ := tupC_raw I hq
  have ei := refs_at rv
  subst ei
  rw [List.length_map] at hz
  obtain ⟨rp, prs, rel, l1, l2, hpr⟩ := pairs_raw I hp
  have hsz : (ps.map Value.ref).toArray.size = rp.length := by simp [l1]
  refine PySem.call_dict_pairs (knd := mixKind X.prog X.w) (kvs := prs) (PairArg.tuple a (ps.map Value.ref).toArray (fun j => ps.getD j 0) rp) (I.ok.hd hcalm) ⟨⟨o, n, ho, hc, hd, hdat⟩, hsz, fun j u v e => ?_⟩ ⟨by rw [l1, l2], fun i u v e => ?_⟩ (by rw [l1]; exact hz) fun h' tk hd' k => ?_
  · obtain ⟨b, key, e1, e2, _, _⟩ := hpr j u v e
    have eg : (fun j => ps.getD j 0) j = b := by show ps.getD j 0 = b; rw [List.getD_eq_getElem?_getD, e1]; rfl
    refine ⟨by rw [eg]; simp [e1], .inl (by rw [eg]; exact e2)⟩
  · obtain ⟨b, key, _, _, e3, e4⟩ := hpr i u v e
    exact ⟨key, e3, e4⟩
  · have hm : (s.heap.objs.size == sysModules) = false := beq_eq_false_iff_ne.mpr (Nat.ne_of_gt I.big)
    have hlen : (mergeK [] kvs).length ≤ sizeLine := by
      refine Nat.le_trans (length_mergeK kvs []) ?_
      rw [List.length_nil, Nat.zero_add, rel.length, l2]
      exact hz
    exact ⟨.ref s.heap.objs.size, upd H s.heap.objs.size (.dK (mergeK [] kvs)), I.laid (t' := tk) (fun b o e => k b o (fun z => nomatch z) e) (Nat.le_refl _) (show ObjOk X.prog X.w _ _ _ (.dK (mergeK [] kvs)) from ⟨hlen, hm, merged [] prs, KV.merge rel .nil, hd'⟩), rfl, q _ (I.hok.fresh (Nat.le_refl _))⟩
theorem pairs_rep {T : Kt} {F : Hp} : ∀ {ds : List PyData} {xs : List V} {l : List (Key × PyData)}, RepAll T F ds xs → pairsD ds = some l →
    ∃ (ps : List Addr) (vs : List V), xs = ps.map V.ref ∧ RepAll T F (l.map (·.2)) vs ∧ Paired (fun p kv => SqT T.K F p [kV kv.1, kv.2]) ps (List.zipWith (fun a v => (a.1, v)) l vs)
  | [], _, l, .nil, e => by
    cases e
    exact ⟨[], [], rfl, .nil, .nil⟩
  | d :: ds, _, l, .cons h a, e => by
    unfold pairsD at e
    split at e
    · rename_i z heq; cases heq
    · rename_i a1 v1 r1 heq
      cases heq
      cases hk : toKey a1 with
      | none => rw [hk] at e; cases e
      | some key =>
        rw [hk] at e
        simp only [Option.bind_some] at e
        obtain ⟨l', e', rfl⟩ := Option.map_eq_some_iff.mp e
        obtain ⟨ps, vs, rfl, r, p⟩ := pairs_rep a e'
        cases h with
        | tup ht ra =>
          rename_i b xs
          cases ra with
          | cons ra1 ra2 =>
            cases ra2 with
            | cons rb1 rb2 =>
              cases rb2
              rename_i va vb
              refine ⟨b :: ps, vb :: vs, rfl, .cons rb1 r, .cons ?_ p⟩
              rw [toKey_rep ra1 hk] at ht
              exact tupC_sq ht
    · cases e
theorem paired_mono {α β : Type} {R R' : α → β → Prop} (h : ∀ a b, R a b → R' a b) : ∀ {l : List α} {m : List β}, Paired R l m → Paired R' l m
  | _, _, .nil => .nil
  | _, _, .cons a t => .cons (h _ _ a) (paired_mono h t)
theorem cd_dict (hcalm : X.calm = true) : Cal1 X M .fr (.type "dict") gDictT := by
  refine ⟨_, call_dictC hcalm, fun W G F ρ σ H x dx d Q S bx e p => ?_⟩
  unfold gDictT at e
  split at e
  · obtain ⟨l, e1, rfl⟩ := Option.map_eq_some_iff.mp e
    obtain ⟨a, xs, rfl, ha, ra⟩ := brw_tup bx
    obtain ⟨ps, vs, rfl, r, pr⟩ := pairs_rep ra e1
    obtain ⟨ds', r', e'⟩ := zk_merge (kvs := []) (ds := []) .nil r
    rw [show dmerge [] l = dmerge (zk [] []) l from rfl, e'] at p
    refine ⟨a, ps, _, rfl, sub_c S.fh ha, ?_, fun q hq => new_dk S r' p hq⟩
    exact paired_mono (fun _ _ h => sub_t S.fh h) pr
  · cases e
end
end PD

set_option Elab.async false
set_option linter.all false
set_option maxRecDepth 100000
set_option maxHeartbeats 2000000
set_option autoImplicit false
namespace PD
open PySem L2 PySem.Spec

/-! ### dicts whose keys are tuples, nested -/
abbrev Ent := NestedKey × Addr × Value
def nfind (ps : Ps) (y : PyData) : Option PyData := (ps.find? fun p => decide (nk p.1 = nk y)).map (·.2)
def nput (ps : Ps) (y d : PyData) : Ps := if (ps.any fun p => decide (nk p.1 = nk y)) = true then ps.map fun p => if nk p.1 = nk y then (p.1, d) else p else ps ++ [(y, d)]
def keyOkN (y : PyData) : Bool := (match y with | .tuple _ => true | _ => false) && hsh y && decide ((nk y).depth ≤ 8)
inductive NT (T : Kt) (F : Hp) : List Ent → List PyData → List PyData → Prop
  | nil : NT T F [] [] []
  | cons {a : Addr} {u : Value} {ents : List Ent} {kd d : PyData} {x : V} {ks vs : List PyData} : hsh kd = true → Rep T F kd (.ref a) → RelV x u → Rep T F d x → NT T F ents ks vs → NT T F ((nk kd, a, u) :: ents) (kd :: ks) (d :: vs)
section
variable {T : Kt} {F F' : Hp} {ents : List Ent} {ks vs : List PyData}
theorem NT.of : ∀ {ents : List Ent} {ks vs : List PyData} {xs : List V}, ks.map nk = ents.map (·.1) → (∀ k ∈ ks, hsh k = true) → RepAll T F ks (ents.map fun e => V.ref e.2.1) → Vals xs (ents.map (·.2.2)) → RepAll T F vs xs → NT T F ents ks vs
  | [], ks, vs, xs, h1, h2, h3, h4, h5 => by
    cases h4; cases h5; cases h3; exact .nil
  | (k, a, u) :: ents, ks, vs, xs, h1, h2, h3, h4, h5 => by
    cases h4 with
    | cons r4 t4 => cases h5 with
      | cons r5 t5 => cases h3 with
        | cons r3 t3 =>
          rename_i kd ks
          simp only [List.map_cons, List.cons.injEq] at h1
          obtain ⟨rfl, h1⟩ := h1
          exact .cons (h2 _ List.mem_cons_self) r3 r4 r5 (NT.of h1 (fun k hk => h2 k (List.mem_cons_of_mem _ hk)) t3 t4 t5)
theorem NT.out : ∀ {ents : List Ent} {ks vs : List PyData}, NT T F ents ks vs → ks.map nk = ents.map (·.1) ∧ (∀ k ∈ ks, hsh k = true) ∧ RepAll T F ks (ents.map fun e => V.ref e.2.1) ∧ ∃ xs, Vals xs (ents.map (·.2.2)) ∧ RepAll T F vs xs
  | _, _, _, .nil => ⟨rfl, fun k hk => (nomatch hk), .nil, [], .nil, .nil⟩
  | _, _, _, .cons h r3 r4 r5 t => by
    obtain ⟨a1, a2, a3, xs, a4, a5⟩ := NT.out t
    refine ⟨by simp [a1], fun k hk => ?_, .cons r3 a3, _ :: xs, .cons r4 a4, .cons r5 a5⟩
    rcases List.mem_cons.mp hk with rfl | hk
    · exact h
    · exact a2 k hk
theorem NT.mono (s : Sub F F') : ∀ {ents : List Ent} {ks vs : List PyData}, NT T F ents ks vs → NT T F' ents ks vs
  | _, _, _, .nil => .nil
  | _, _, _, .cons h r3 r4 r5 t => .cons h (r3.mono s) r4 (r5.mono s) (NT.mono s t)
theorem NT.len : ∀ {ents : List Ent} {ks vs : List PyData}, NT T F ents ks vs → ks.length = ents.length ∧ vs.length = ents.length
  | _, _, _, .nil => ⟨rfl, rfl⟩
  | _, _, _, .cons h r3 r4 r5 t => by
    obtain ⟨a, b⟩ := NT.len t
    exact ⟨by simp [a], by simp [b]⟩
theorem NT.find (y : PyData) : ∀ {ents : List Ent} {ks vs : List PyData}, NT T F ents ks vs → (∃ d x a u, nfind (ks.zip vs) y = some d ∧ atKey ents (nk y) = some (a, u) ∧ RelV x u ∧ Rep T F d x) ∨ (nfind (ks.zip vs) y = none ∧ atKey ents (nk y) = none)
  | _, _, _, .nil => .inr ⟨rfl, rfl⟩
  | _, _, _, .cons (a := a) (u := u) (ents := ents) (kd := kd) (d := d) (x := x) (ks := ks) (vs := vs) h r3 r4 r5 t => by
    by_cases e : nk kd = nk y
    · exact .inl ⟨d, x, a, u, by simp [nfind, e], by simp [atKey, e], r4, r5⟩
    · have e1 : nfind ((kd :: ks).zip (d :: vs)) y = nfind (ks.zip vs) y := by simp [nfind, e]
      have e2 : atKey ((nk kd, a, u) :: ents) (nk y) = atKey ents (nk y) := by simp [atKey, e]
      rw [e1, e2]
      exact NT.find y t
theorem NT.repl {k : NestedKey} {u : Value} {x : V} {d : PyData} (ru : RelV x u) (rd : Rep T F d x) : ∀ {ents : List Ent} {ks vs : List PyData}, NT T F ents ks vs → ∃ vs', NT T F (ents.map (putAt k u)) ks vs' ∧ (ks.zip vs).map (fun p => if nk p.1 = k then (p.1, d) else p) = ks.zip vs'
  | _, _, _, .nil => ⟨[], .nil, rfl⟩
  | _, _, _, .cons (a := a) (u := u0) (ents := ents) (kd := kd) (d := d0) (x := x0) (ks := ks) (vs := vs) h r3 r4 r5 t => by
    obtain ⟨vs', n', e'⟩ := NT.repl (k := k) ru rd t
    by_cases e : nk kd = k
    · refine ⟨d :: vs', ?_, by simp [e, e']⟩
      rw [List.map_cons, show putAt k u (nk kd, a, u0) = (nk kd, a, u) by simp [putAt, e]]
      exact .cons h r3 ru rd n'
    · refine ⟨d0 :: vs', ?_, by simp [e, e']⟩
      rw [List.map_cons, show putAt k u (nk kd, a, u0) = (nk kd, a, u0) by simp [putAt, e]]
      exact .cons h r3 r4 r5 n'
theorem NT.snoc {y d : PyData} {b : Addr} {u : Value} {x : V} (hy : hsh y = true) (ry : Rep T F y (.ref b)) (ru : RelV x u) (rd : Rep T F d x) : ∀ {ents : List Ent} {ks vs : List PyData}, NT T F ents ks vs → NT T F (ents ++ [(nk y, b, u)]) (ks ++ [y]) (vs ++ [d])
  | _, _, _, .nil => .cons hy ry ru rd .nil
  | _, _, _, .cons h r3 r4 r5 t => .cons h r3 r4 r5 (NT.snoc hy ry ru rd t)
theorem NT.any {k : NestedKey} : ∀ {ents : List Ent} {ks vs : List PyData}, NT T F ents ks vs → ((ks.zip vs).any fun p => decide (nk p.1 = k)) = (atKey ents k).isSome
  | _, _, _, .nil => rfl
  | _, _, _, .cons (a := a) (u := u0) (ents := ents) (kd := kd) (d := d0) (x := x0) (ks := ks) (vs := vs) h r3 r4 r5 t => by
    have ih := NT.any (k := k) t
    by_cases e : nk kd = k
    · simp [atKey, e]
    · have e2 : atKey ((nk kd, a, u0) :: ents) k = atKey ents k := by simp [atKey, e]
      rw [e2, ← ih]
      simp [e]
theorem NT.put {y d : PyData} {b : Addr} {u : Value} {x : V} (hy : hsh y = true) (ry : Rep T F y (.ref b)) (ru : RelV x u) (rd : Rep T F d x) (n : NT T F ents ks vs) : ∃ ks' vs', NT T F (storedH ents (nk y) b u) ks' vs' ∧ nput (ks.zip vs) y d = ks'.zip vs' := by
  unfold nput storedH
  rw [n.any]
  split
  · obtain ⟨vs', n', e'⟩ := n.repl (k := nk y) ru rd
    exact ⟨ks, vs', n', e'⟩
  · refine ⟨ks ++ [y], vs ++ [d], n.snoc hy ry ru rd, ?_⟩
    have := n.len
    rw [List.zip_append (by omega)]
    rfl
end
/-- the dict at a -/
structure ND (T : Kt) (F H : Hp) (a : Addr) (ks vs : List PyData) (ents : List Ent) (o : Obj) (es : Array DictEntry) (ep : Nat) : Prop where
  at_ : H a = some (exo a o)
  ex : o.ExactDict
  data : o.data = .dict es ep
  ents_ : es.toList = ents.map (entryOfKey (nestedKind T.P T.w))
  nd : (ents.map (·.1)).Nodup
  low : (a == sysModules) = false
  sz : ents.length ≤ sizeLine
  dep : ∀ e ∈ ents, e.1.depth ≤ 8
  nt : NT T F ents ks vs
theorem ND.top {T : Kt} {F H : Hp} {a : Addr} {ks vs : List PyData} {ents : List Ent} {o : Obj} {es : Array DictEntry} {ep : Nat} (n : ND T F H a ks vs ents o es ep) : Top T H F a (.dict ((.none, .none) :: ks.zip vs)) := by
  obtain ⟨h9, h10, ra, xs, h11, rb⟩ := n.nt.out
  exact .dn n.at_ n.ex n.data n.ents_ n.nd n.low n.sz n.dep h9 h10 ra h11 rb
theorem brw_dn {T : Kt} {H F : Hp} {ps : Ps} {v : V} (b : Brw T H F (.dict ((.none, .none) :: ps)) v) (s : Sub F H) : ∃ a ks vs ents o es ep, v = .ref a ∧ ND T F H a ks vs ents o es ep ∧ ps = ks.zip vs := by
  generalize e : PyData.dict ((.none, .none) :: ps) = D at b
  cases b with
  | rep r =>
    cases r with
    | dk h a =>
      exfalso
      rename_i a kvs ds
      cases kvs with
      | nil => simp at e
      | cons p kvs => cases ds with
        | nil => simp at e
        | cons d ds => rcases p with ⟨k, v⟩; cases k <;> simp [kD] at e
    | dn h1 h2 h3 h4 h5 h6 h7 h8 h9 h10 a h11 b =>
      simp only [PyData.dict.injEq, List.cons.injEq, true_and] at e
      exact ⟨_, _, _, _, _, _, _, rfl, ⟨s _ _ h1, h2, h3, h4, h5, h6, h7, h8, NT.of h9 h10 a h11 b⟩, e⟩
    | _ => cases e
  | top t =>
    cases t with
    | lst => cases e
    | dk h a =>
      exfalso
      rename_i kvs ds
      cases kvs with
      | nil => simp at e
      | cons p kvs => cases ds with
        | nil => simp at e
        | cons d ds => rcases p with ⟨k, v⟩; cases k <;> simp [kD] at e
    | dn h1 h2 h3 h4 h5 h6 h7 h8 h9 h10 a h11 b =>
      simp only [PyData.dict.injEq, List.cons.injEq, true_and] at e
      exact ⟨_, _, _, _, _, _, _, rfl, ⟨h1, h2, h3, h4, h5, h6, h7, h8, NT.of h9 h10 a h11 b⟩, e⟩
section
variable {X : Cx} {W : WX} {M : List Md} {k : Kd} {pos : Pos} {N : List Str} {sc : Scope} {fn : Str → Bool} {pins : List (Addr × Obj)} {σ : St} {H F : Hp} {s : Shared}
mutual
theorem rep_nested (I : Inv X pins σ H s) (sF : Sub F H) : ∀ {d : PyData} {v : V} {u : Value}, Rep (kt X) F d v → hsh d = true → RelV v u → NestedIs s.heap (nk d) u
  | _, _, _, .non, _, r => by cases r; exact .none
  | _, _, _, .bl b, _, r => by cases r; exact .bool rfl
  | _, _, _, .int i, _, r => by obtain ⟨t, rfl⟩ := r; exact .int i t
  | _, _, _, .str x, _, r => by obtain ⟨t, rfl⟩ := r; exact .text x t
  | _, _, _, .tup h a, hh, r => by
    cases r
    obtain ⟨o, its, n, ho, hc, _, hd, rv, _⟩ := tupC_raw I (sub_c sF h)
    exact .tup ho hc hd (reps_nested I sF a (by simpa [hsh] using hh) rv)
  | _, _, _, .lst h a, hh, _ => by simp [hsh] at hh
  | _, _, _, .dk h a, hh, _ => by simp [hsh] at hh
  | _, _, _, .dn .., hh, _ => by simp [hsh] at hh
theorem reps_nested (I : Inv X pins σ H s) (sF : Sub F H) : ∀ {ds : List PyData} {vs : List V} {us : List Value}, RepAll (kt X) F ds vs → hshs ds = true → Vals vs us → NestedAll s.heap (nks ds) us
  | _, _, _, .nil, _, r => by cases r; exact .nil
  | _, _, _, .cons h a, hh, r => by
    cases r with
    | cons r1 r2 =>
      simp only [hshs, Bool.and_eq_true] at hh
      exact .cons (rep_nested I sF h hh.1 r1) (reps_nested I sF a hh.2 r2)
end
theorem NT.is (I : Inv X pins σ H s) (sF : Sub F H) : ∀ {ents : List Ent} {ks vs : List PyData}, NT (kt X) F ents ks vs → (∀ e ∈ ents, e.1.depth ≤ 8) → ∀ e ∈ ents, (nestedKind X.prog X.w).is s.heap e.1 e.2.1
  | _, _, _, .nil, _ => fun e he => nomatch he
  | _, _, _, .cons h r3 r4 r5 t, hd => fun e he => by
    rcases List.mem_cons.mp he with rfl | he
    · exact ⟨rep_nested I sF r3 h rfl, hd _ List.mem_cons_self⟩
    · exact NT.is I sF t (fun e he => hd e (List.mem_cons_of_mem _ he)) e he
theorem ND.of {a : Addr} {ks vs : List PyData} {ents : List Ent} {o : Obj} {es : Array DictEntry} {ep : Nat} (n : ND (kt X) F H a ks vs ents o es ep) (I : Inv X pins σ H s) (sF : Sub F H) : s.heap.DictOfH (nestedKind X.prog X.w) a ents := by
  obtain ⟨ho, _, _⟩ := (show ObjOk X.prog X.w H s.heap a (exo a o) from I.hok a _ n.at_)
  exact ⟨o, es, ep, ho, n.ex, n.data, n.ents_, n.nt.is I sF n.dep, n.nd⟩
theorem exo_ok {P : Program} {w : World} {H : Hp} {h : Heap} {a : Addr} {o : Obj} (e : h.get? a = some o) : ObjOk P w H h a (exo a o) := ⟨e, ⟨o, e⟩, fun _ _ φ k => k _ φ⟩
/-- {} -/
def tDNewN : TE := fun _ H Q => ∀ p o, H p = none → o.ExactDict → o.data = .dict #[] 0 → (p == sysModules) = false → Q (.ref p) (upd H p (exo p o))
theorem pe_dnewN : PE X (.Dict [] [] pos) tDNewN := ⟨fun pins s σ H Q I h =>
  wpAny_Dict_empty ⟨.ref s.heap.objs.size, _, I.laid (a := s.heap.objs.size) (o := exo s.heap.objs.size { cls := .type "dict", data := .dict #[] }) (t' := s.toks) (fun _ _ q => Heap.get?_push_of_some _ q) (Nat.le_refl _) (exo_ok (Heap.get?_push_size _ rfl)), rfl,
    h _ _ (I.hok.fresh (Nat.le_refl _)) ⟨rfl, rfl, rfl⟩ rfl (beq_eq_false_iff_ne.mpr (Ne.symm (Nat.ne_of_lt I.big)))⟩⟩
theorem new_dn {G F H : Hp} {ρ : Env} {σ : St} {Q : VK} {a : Addr} {ks vs : List PyData} {ents : List Ent} {o : Obj} {es : Array DictEntry} {ep : Nat} (S : SR (kt X) M G F ρ σ H) (ha : H a = none) (n : ND (kt X) F (upd H a (exo a o)) a ks vs ents o es ep)
    (h : Post X W M G F σ (.ok (PyData.dict ((.none, .none) :: ks.zip vs)) ρ) fun d ρ' F' H' => ∀ v, ResK .fr (kt X) M G F' H' ρ' σ v d → Q v H') : Q (.ref a) (upd H a (exo a o)) := by
  refine h F _ Sub.rfl' (S.fresh ha) _ ⟨fun q => (by cases q), fun _ => ⟨a, rfl, S.gh.none ha, S.fh.none ha, n.top, fun i oa => ?_⟩⟩
  obtain ⟨_, _, u, hu⟩ := S.own oa
  rw [ha] at hu; cases hu
theorem px_dnewN : PX X W M .fr (.Dict [] [] pos) (dC (.dict [(.none, .none)])) :=
  ⟨_, pe_dnewN, fun G F ρ σ H Q S w p o hp hx hd hl => new_dn (ks := []) (vs := []) (ents := []) (es := #[]) (ep := 0) S hp ⟨upd_same, hx, hd, rfl, List.nodup_nil, hl, Nat.zero_le _, fun _ h => (nomatch h), .nil⟩ w⟩
/-! d[k] -/
def gNGet : PyData → PyData → Option PyData
  | .dict ((.none, .none) :: ps), y => if keyOkN y = true then nfind ps y else none
  | _, _ => none
def gNIn : PyData → PyData → Option PyData
  | y, .dict ((.none, .none) :: ps) => if keyOkN y = true then some (.bool (nfind ps y).isSome) else none
  | _, _ => none
def gNNotIn : PyData → PyData → Option PyData
  | y, .dict ((.none, .none) :: ps) => if keyOkN y = true then some (.bool (!(nfind ps y).isSome)) else none
  | _, _ => none
def rNGet (T : Kt) : R2 := fun x y H Q => ∃ F a b ks vs ents o es ep yd xv u c, x = .ref a ∧ y = .ref b ∧ Sub F H ∧ ND T F H a ks vs ents o es ep ∧ Rep T F yd (.ref b) ∧ hsh yd = true ∧ (nk yd).depth ≤ 8 ∧ atKey ents (nk yd) = some (c, u) ∧ RelV xv u ∧ Q xv H
def rNIn (T : Kt) (neg : Bool) : R2 := fun y x H Q => ∃ F a b ks vs ents o es ep yd, x = .ref a ∧ y = .ref b ∧ Sub F H ∧ ND T F H a ks vs ents o es ep ∧ Rep T F yd (.ref b) ∧ hsh yd = true ∧ (nk yd).depth ≤ 8 ∧ Q (.bl (neg != (atKey ents (nk yd)).isSome)) H
theorem keyOkN_out {y : PyData} {T : Kt} {F H : Hp} {v : V} (h : keyOkN y = true) (b : Brw T H F y v) : ∃ c, v = .ref c ∧ Rep T F y (.ref c) ∧ hsh y = true ∧ (nk y).depth ≤ 8 := by
  unfold keyOkN at h
  simp only [Bool.and_eq_true, decide_eq_true_eq] at h
  obtain ⟨⟨h1, h2⟩, h3⟩ := h
  cases y with
  | tuple ds =>
    have r := b.scal rfl
    cases r with | tup ht ra => exact ⟨_, rfl, .tup ht ra, h2, h3⟩
  | _ => cases h1
theorem pe_nget {o i : Expr} {td ty : TE} (hu : X.A.units + 100 < cLine) (ho : PE X o td) (hi : PE X i ty) (hs : NoSl i) : PE X (.Subscript o i pos) (tOp (rNGet (kt X)) td ty) := by
  refine ⟨fun pins s σ H Q I h => ?_⟩
  refine subD_of PySem.F.slot_dict_getitem.lookup hs (thn (ho.run pins s σ H _ I h) fun u s1 ⟨x, H1, I1, rx, q1⟩ => thn (hi.run pins s1 σ H1 _ I1 q1) fun iv s2 ⟨y, H2, I2, ry, q2⟩ => ?_)
  obtain ⟨F, a, b, ks, vs, ents, o, es, ep, yd, xv, u', c, rfl, rfl, sF, n, rk, hh, hd, at_, rv, q⟩ := q2
  cases rx
  cases ry
  have dd := n.of I2 sF
  refine ⟨dd.typeIs, wpAny_getItem_heap (knd := nestedKind X.prog X.w) (k := nk yd) (show X.A.units + 1 + 8 < cLine by omega) ⟨rep_nested I2 sF rk hh rfl, hd⟩ dd at_ ⟨xv, H2, I2.tok _, rv, q⟩⟩
theorem op_nin (hu : X.A.units + 100 < cLine) : OpR X (compareOp .In) (rNIn (kt X) false) := by
  intro pins s σ H x y v u Q I rx ry h
  obtain ⟨F, a, b, ks, vs, ents, o, es, ep, yd, rfl, rfl, sF, n, rk, hh, hd, q⟩ := h
  cases rx
  cases ry
  refine wpAny_in_heap (knd := nestedKind X.prog X.w) (k := nk yd) (show X.A.units + 1 + 8 < cLine by omega) ⟨rep_nested I sF rk hh rfl, hd⟩ n.low (n.of I sF) ⟨.bl _, H, I.tok _, rfl, ?_⟩
  simpa using q
theorem op_nnin (hu : X.A.units + 100 < cLine) : OpR X (compareOp .NotIn) (rNIn (kt X) true) := by
  intro pins s σ H x y v u Q I rx ry h
  obtain ⟨F, a, b, ks, vs, ents, o, es, ep, yd, rfl, rfl, sF, n, rk, hh, hd, q⟩ := h
  cases rx
  cases ry
  show wpAny _ _ (do return Value.bool (!(← contains (.ref a) (.ref b)))) _ _ s
  refine wpAny_bind (wpAny_contains_heap (knd := nestedKind X.prog X.w) (k := nk yd) (show X.A.units + 1 + 8 < cLine by omega) ⟨rep_nested I sF rk hh rfl, hd⟩ n.low (n.of I sF) (wpAny_pure ⟨.bl _, H, I.tok _, rfl, ?_⟩))
  simpa using q
theorem nget_q (W : WX) (G F : Hp) (ρ : Env) (σ : St) (H : Hp) (x y : V) (dx dy d : PyData) (Q : VK) (S : SR (kt X) M G F ρ σ H) (bx : Brw (kt X) H F dx x) (b_y : Brw (kt X) H F dy y) (e : gNGet dx dy = some d)
    (p : Post X W M G F σ (.ok d ρ) (fun d ρ' F' H' => ∀ v, ResK .sh (kt X) M G F' H' ρ' σ v d → Q v H')) : rNGet (kt X) x y H Q := by
  unfold gNGet at e
  split at e
  · split at e
    · rename_i ps hk
      obtain ⟨a, ks, vs, ents, o, es, ep, rfl, n, rfl⟩ := brw_dn bx S.fh
      obtain ⟨b, rfl, rk, hh, hd⟩ := keyOkN_out hk b_y
      rcases n.nt.find dy with ⟨d', xv, c, u, e1, e2, r1, r2⟩ | ⟨e1, e2⟩
      · rw [e] at e1; cases e1
        exact ⟨F, a, b, ks, vs, ents, o, es, ep, dy, xv, u, c, rfl, rfl, S.fh, n, rk, hh, hd, e2, r1, p.now S xv r2⟩
      · rw [e] at e1; cases e1
    · cases e
  · cases e
theorem px_nget {a b : Expr} {fa fb : Den} (hu : X.A.units + 100 < cLine) (ha : PX X W M .sh a fa) (hb : PX X W M .ow b fb) (hs : NoSl b) : PX X W M .sh (.Subscript a b pos) (dOp gNGet fa fb) := by
  obtain ⟨ta, pa, qa⟩ := ha
  obtain ⟨tb, pb, qb⟩ := hb
  exact ⟨_, pe_nget hu pa pb hs, fun G F ρ σ H Q S w => op_run (f := getItem) (r := rNGet (kt X)) (a := a) (b := b) (k := .sh) nget_q qa qb S w⟩
theorem px_ngetO {i : Nat} {x : Str} {m : Md} {p : Pos} {b : Expr} {fb : Den} (hu : X.A.units + 100 < cLine) (hi : X.N[i]? = some x) (hv : Vis X.env.scope x) (hm : M[i]? = some m) (hb : PX X W M .ow b fb) (hs : NoSl b) (ho : m.own = true := by rfl)
    (hd : (x == ("__debug__" : Str)) = false := by decide) (hcd : (x == ("__classdict__" : Str)) = false := by decide) : PX X W M .sh (.Subscript (.Name x p) b pos) (dOpO gNGet i fb) := by
  obtain ⟨tb, pb, qb⟩ := hb
  exact ⟨_, pe_nget hu (pe_var hi hv hd hcd) pb hs, fun G F ρ σ H Q S w => own_run (f := getItem) (r := rNGet (kt X)) (b := b) (k := .sh) nget_q hm ho qb S w⟩
theorem od_nin (hu : X.A.units + 100 < cLine) : OpD X M k (compareOp .In) gNIn := by
  refine ⟨_, op_nin hu, fun W G F ρ σ H x y dx dy d Q S bx b_y e p => ?_⟩
  unfold gNIn at e
  split at e
  · split at e
    · rename_i ps hk
      cases e
      obtain ⟨a, ks, vs, ents, o, es, ep, rfl, n, rfl⟩ := brw_dn b_y S.fh
      obtain ⟨b, rfl, rk, hh, hd⟩ := keyOkN_out hk bx
      refine ⟨F, a, b, ks, vs, ents, o, es, ep, dx, rfl, rfl, S.fh, n, rk, hh, hd, p.now S _ (ResK.sc ?_ rfl)⟩
      rcases n.nt.find dx with ⟨d', xv, c, u, e1, e2, r1, r2⟩ | ⟨e1, e2⟩ <;> rw [e1, e2] <;> exact .bl _
    · cases e
  · cases e
theorem od_nnin (hu : X.A.units + 100 < cLine) : OpD X M k (compareOp .NotIn) gNNotIn := by
  refine ⟨_, op_nnin hu, fun W G F ρ σ H x y dx dy d Q S bx b_y e p => ?_⟩
  unfold gNNotIn at e
  split at e
  · split at e
    · rename_i ps hk
      cases e
      obtain ⟨a, ks, vs, ents, o, es, ep, rfl, n, rfl⟩ := brw_dn b_y S.fh
      obtain ⟨b, rfl, rk, hh, hd⟩ := keyOkN_out hk bx
      refine ⟨F, a, b, ks, vs, ents, o, es, ep, dx, rfl, rfl, S.fh, n, rk, hh, hd, p.now S _ (ResK.sc ?_ rfl)⟩
      rcases n.nt.find dx with ⟨d', xv, c, u, e1, e2, r1, r2⟩ | ⟨e1, e2⟩ <;> rw [e1, e2] <;> exact .bl _
    · cases e
  · cases e
/-! d[k] = v -/
def tSetN (T : Kt) : TSet := fun o i v H Q => ∃ (F : Hp) (a b : Addr) (ks vs : List PyData) (ents : List Ent) (ob : Obj) (es : Array DictEntry) (ep : Nat) (yd d : PyData), o = .ref a ∧ i = .ref b ∧ Sub F H ∧ ND T F H a ks vs ents ob es ep ∧ F a = none ∧ Rep T F yd (.ref b) ∧ hsh yd = true ∧ (nk yd).depth ≤ 8 ∧ ents.length < sizeLine ∧
  Rep T F d v ∧ ∀ ob' ents' es' ep' ks' vs', ND T F (upd H a (exo a ob')) a ks' vs' ents' ob' es' ep' → nput (ks.zip vs) yd d = ks'.zip vs' → Q (upd H a (exo a ob'))
theorem storedH_depth {ents : List Ent} {k : NestedKey} {b : Addr} {u : Value} (h : ∀ e ∈ ents, e.1.depth ≤ 8) (hk : k.depth ≤ 8) : ∀ e ∈ storedH ents k b u, e.1.depth ≤ 8 := by
  intro e he
  unfold storedH at he
  split at he
  · obtain ⟨e0, h0, rfl⟩ := List.mem_map.mp he
    unfold putAt
    split
    · exact h e0 h0
    · exact h e0 h0
  · rcases List.mem_append.mp he with he | he
    · exact h e he
    · rw [List.mem_singleton.mp he]; exact hk
theorem storedH_len (ents : List Ent) (k : NestedKey) (b : Addr) (u : Value) : (storedH ents k b u).length ≤ ents.length + 1 := by
  unfold storedH
  split <;> simp
theorem set_nest (hu : X.A.units + 100 < cLine) : PSet X (tSetN (kt X)) := by
  intro pins s σ H o i v ov iv u Q I ro ri rv h
  obtain ⟨F, a, b, ks, vs, ents, ob, es, ep, yd, d, rfl, rfl, sF, n, hFa, rk, hh, hd, hz, rd, q⟩ := h
  cases ro
  cases ri
  refine wpAny_setItem_heap (knd := nestedKind X.prog X.w) (k := nk yd) (show X.A.units + 1 + 8 < cLine by omega) ⟨rep_nested I sF rk hh rfl, hd⟩ (n.of I sF) (fun h' hm' hs => ?_) n.sz
  obtain ⟨ob', es', ep', ho', hx', hd', he', _, hn'⟩ := hm'
  obtain ⟨ks', vs', nt', e'⟩ := n.nt.put hh rk rv rd
  have hl : (storedH ents (nk yd) b u).length ≤ sizeLine := by have := storedH_len ents (nk yd) b u; omega
  have sF' : Sub F (upd H a (exo a ob')) := sF.wr hFa
  have n' : ND (kt X) F (upd H a (exo a ob')) a ks' vs' _ ob' es' ep' := ⟨upd_same, hx', hd', he', hn', n.low, hl, storedH_depth n.dep hd, nt'⟩
  exact ⟨_, d_write I (by rw [n.at_]; exact True.intro) hs ⟨ob', ho'⟩ (exo_ok ho'), q ob' _ es' ep' ks' vs' n' e'⟩
def dStN (j : Nat) (fv fi : Den) : DenS := fun ρ => (fv ρ).bind fun v ρ => (dVar j ρ).bind fun _ ρ => (fi ρ).bind fun i ρ => match ρ[j]? with
  | some (some (.dict ((.none, .none) :: ps))) => if keyOkN i = true ∧ ps.length < sizeLine then .ok .nx (ρ.set j (some (.dict ((.none, .none) :: nput ps i v)))) else .bad
  | _ => .bad
theorem psx_stN {j : Nat} {y : Str} {m : Md} {i e : Expr} {fi fe : Den} {py p2 : Pos} (hu : X.A.units + 100 < cLine) (hj : X.N[j]? = some y) (hv : Vis X.env.scope y) (hm : M[j]? = some m) (hi : PX X W M .sh i fi) (he : PX X W M .sh e fe) (ho : m.own = true := by rfl) (hd : (y == ("__debug__" : Str)) = false := by decide) (hcd : (y == ("__classdict__" : Str)) = false := by decide)
    (ha : ∀ v, assign (.Subscript (.Name y py) i p2) X.env v = (do
      let ov ← holding [v] (eval (.Name y py) X.env)
      let iv ← holding [v, ov] (eval i X.env)
      standAt p2
      holding [v, ov, iv] (setItem ov iv v)
      release [v, ov, iv] []) := by intro _; rfl)
    (hs : swapsWithSole [.Subscript (.Name y py) i p2] e pos.line X.env = pure false := by rfl) (hw : swappedStores [.Subscript (.Name y py) i p2] e X.env = pure none := by rfl)
    (h1 : (assignEach [.Subscript (.Name y py) i p2] X.env).map (·.2) = [assign (.Subscript (.Name y py) i p2) X.env] := by rfl) : PSX X W M k (.Assign [.Subscript (.Name y py) i p2] e pos) (dStN j fe fi) := by
  obtain ⟨t, p, q⟩ := he
  obtain ⟨u, p', q'⟩ := hi
  refine ⟨_, ps_asg p (pg_sub (pe_var hj hv hd hcd) p' (set_nest hu) ha) hs hw h1, fun G F ρ σ H D S w => q _ _ _ _ _ _ S ((PostS.bind w).imp fun v ρ1 F1 H1 _ S1 w1 x rx => ?_)⟩
  unfold dVar at w1
  split at w1
  · rename_i d0 h0
    obtain ⟨a, e1, _, _, _⟩ := S1.top hm ho h0
    refine ⟨_, e1, ?_⟩
    have w1 : PostS X W M k G F1 σ ((fi ρ1).bind _) D := w1
    refine q' _ _ _ _ _ _ S1 ((PostS.bind w1).imp fun z ρ2 F2 H2 s2 S2 w2 y2 ry => ?_)
    split at w2
    · rename_i ps hx
      split at w2
      · rename_i hc
        obtain ⟨a', e2, _, hF, t1⟩ := S2.top hm ho hx
        rw [e1] at e2; cases e2
        obtain ⟨a2, ks, vs, ents, ob, es, ep, ea, n, rfl⟩ := brw_dn (.top t1) S2.fh
        cases ea
        obtain ⟨b, rfl, rk, hh, hdp⟩ := keyOkN_out hc.1 (Brw.rep (T := kt X) (H := H2) ry)
        have hl := n.nt.len
        refine ⟨F2, a, b, ks, vs, ents, ob, es, ep, z, v, rfl, rfl, S2.fh, n, hF, rk, hh, hdp, ?_, Rep.mono s2 rx, fun ob' ents' es' ep' ks' vs' n' e' => ?_⟩
        · have := hc.2; rw [List.length_zip] at this; omega
        · rw [e'] at w2
          exact w2 F2 _ σ Sub.rfl' (S2.write hm ho hx e1 n'.top) Keep.rfl'
      · exact w2.elim
    · exact w2.elim
  · exact w1.elim
end
end PD

set_option Elab.async false
set_option linter.all false
set_option maxRecDepth 100000
set_option maxHeartbeats 2000000
set_option autoImplicit false
namespace PD
open PySem L2 PySem.Spec

/-! ### {key: value for target in source if ..}, keys of any kind -/
abbrev InsT := Addr → V → V → Hp → (Hp → Prop) → Prop
def InsAt (Y : Cx) (ins : InsT) : Prop := ∀ (pins : List (Addr × Obj)) (σ : St) (H : Hp) (s : Shared) (E : Value → Shared → Prop) (D : Addr) (y z : V) (u r : Value) (Q : Hp → Prop), Inv Y pins σ H s → RelV y u → RelV z r → ins D y z H Q →
  wpAny (model Y.prog Y.w) Y.A (dictSet D u r) (fun _ s' => ∃ H', Inv Y pins σ H' s' ∧ Q H') E s
abbrev emptyD : Obj := { cls := .type "dict", data := .dict #[] }
def tDg (o0 : Addr → HO) (ins : InsT) (wi : TI) (g : TG) (tt : TT) (tk tv : TE) (vs : List Nat) : TE := fun σ H Q => wi σ H fun J H1 => ∀ D, H1 D = none → (D == sysModules) = false → ∃ W : Nat → Nat → Hp → Prop, (∃ m, W 0 m (upd H1 D (o0 D))) ∧ ∀ i m H, W i m H →
  (J.stop i H ∧ Q (.ref D) H) ∨ (J.go i H ∧ ∃ Nx : Hp → Prop, (∀ H', Nx H' → ∃ m', m' < m ∧ W (i + 1) m' H') ∧ ∀ x H', J.yld i H x H' → g x (wipe σ vs) H' fun σ2 H2 => wipe σ2 vs = wipe σ vs ∧ tt σ2 H2 fun b H3 =>
    if b = true then tk σ2 H3 fun y H4 => tv σ2 H4 fun z H5 => ins D y z H5 Nx else Nx H3)
section
variable {X : Cx}
theorem dg_core {pins : List (Addr × Obj)} {s : Shared} {σ : St} {H : Hp} {Q : VK} {pos' : Pos} {use : Option (Value → Sem Unit)} {Qf : Value → Shared → Prop} {o0 : Addr → HO} {ins : InsT} {kx vx tg iter : Expr} {ifs : List Expr} {scope : Scope} {own : List (Str × Nat)} {pos : Pos} {wi : TI} {g : TG} {tt : TT} {tk tv : TE} (hnew : ∀ (H : Hp) (h : Heap), ObjOk X.prog X.w H (h.push emptyD) h.objs.size (o0 h.objs.size) ∨ ¬ sysModules < h.objs.size)
    (hins : ∀ (s : Shared) (H : Hp) (ce : PySem.Env) (fp : List Addr), InsAt (X.blk s H scope ce fp) ins) (hc : X.calm = true) (hN : X.N.Nodup) (hi : PI X tg iter wi) (ok : BlkOk X.N X.env.scope scope own)
    (hg : ∀ (s : Shared) (H : Hp) (C : Addr) (cl : List (Str × Addr)) (fp : List Addr), PG (X.blk s H scope (compEnvC scope cl C X.env) fp) tg g) (ht : ∀ (s : Shared) (H : Hp) (C : Addr) (cl : List (Str × Addr)) (fp : List Addr), PTs (X.blk s H scope (compEnvC scope cl C X.env) fp) ifs tt)
    (hk : ∀ (s : Shared) (H : Hp) (C : Addr) (cl : List (Str × Addr)) (fp : List Addr), PE (X.blk s H scope (compEnvC scope cl C X.env) fp) kx tk)
    (he : ∀ (s : Shared) (H : Hp) (C : Addr) (cl : List (Str × Addr)) (fp : List Addr), PE (X.blk s H scope (compEnvC scope cl C X.env) fp) vx tv) (hs : ∀ x, foldedSetIterable iter X.env x = pure x) (I : Inv X pins σ H s) (h : tDg o0 ins wi g tt tk tv (own.map (·.2)) σ H Q)
    (hRR : ∀ D C s' m H', Inv X pins σ H' s' → Q (.ref D) H' → s'.heap.Ns C m → FpOk X pins H' C → compPost (model X.prog X.w) X.A X.xe use Qf (.ref D) C (.ok .next) s') :
    wpAny (model X.prog X.w) X.A (comprehension (.DictComp kx vx [⟨tg, iter, ifs, 0⟩] scope pos) scope X.env pos' newDict false (eval iter X.env) use) Qf X.xe s := by
  have hfree : ∀ y ∈ scope.names, y.2 = .free → ∃ c, X.env.cells.lookup y.1 = some c := fun y hy e => (ok.free y hy e).elim (fun z => I.ok.has _ (.inl z)) fun z => I.ok.has _ (.inr z)
  refine wpAny_comprehension_free (use := use) rfl hs (closure_ok hfree) ok.kind (fun y hy e => by rw [ok.uniq y hy, e]) (thn (hi.run pins s σ H _ I h) fun xv s1 hx => thn hx fun itv s2 h2 => ?_)
  obtain ⟨it, fp, tn, J, H2, rfl, I2, T, st2, f2, q⟩ := h2
  refine wpAny_newObj_type (newEnv_comp ?_)
  generalize hD : s2.heap.objs.size = D
  have hDn : H2 D = none := I2.hok.fresh (Nat.le_of_eq hD)
  have lowD : (D == sysModules) = false := by
    rw [← hD]; exact beq_eq_false_iff_ne.mpr (Ne.symm (Nat.ne_of_lt I2.big))
  obtain ⟨W, ⟨m0, w0⟩, turn⟩ := q D hDn lowD
  generalize hs3 : ({ s2 with heap := s2.heap.push { cls := .type "dict", data := .dict #[] } } : Shared) = s3
  have h3 : s3.heap = s2.heap.push emptyD := by rw [← hs3]
  have I3 : Inv X pins σ (upd H2 D (o0 D)) s3 := by
    rw [← hs3]
    refine I2.laid (t' := s2.toks) (fun b o e => Heap.get?_push_of_some _ e) (Nat.le_of_eq hD) ?_
    rw [← hD]
    exact (hnew _ s2.heap).resolve_right fun z => z I2.big
  have sz : ∀ b ∈ fp, b < s2.heap.objs.size := fun b hb => let ⟨_, e, _⟩ := T.obj _ _ st2 b hb; Heap.lt_size e
  have f3 : ∀ b ∈ fp, FpOk X pins (upd H2 D (o0 D)) b ∧ b < s3.heap.objs.size := fun b hb => by
    have hlt := sz b hb
    refine ⟨⟨?_, (f2 b hb).2⟩, by rw [h3, Heap.size_push]; exact Nat.lt_succ_of_lt hlt⟩
    rw [upd_ne (by rw [← hD]; exact Nat.ne_of_lt hlt)]
    exact (f2 b hb).1
  have st3 : tn 0 s3.heap := T.keep _ _ _ st2 fun b _ o e => by rw [h3]; exact Heap.get?_push_of_some _ e
  have I4 := block_start I3 ok hN f3
  generalize hcl : cellsFrom (s3.heap.objs.size + 1) scope.names (cloFrom X.env.cells scope.names []) = cl at I4
  have pg := hg s3 (upd H2 D (o0 D)) s3.heap.objs.size cl fp
  have pt := ht s3 (upd H2 D (o0 D)) s3.heap.objs.size cl fp
  have pk := hk s3 (upd H2 D (o0 D)) s3.heap.objs.size cl fp
  have pv := he s3 (upd H2 D (o0 D)) s3.heap.objs.size cl fp
  have pins' := hins s3 (upd H2 D (o0 D)) (compEnvC scope cl s3.heap.objs.size X.env) fp
  subst hcl
  show codeAny _ _ (.compStart (.DictComp kx vx [⟨tg, iter, ifs, 0⟩] scope pos) 0 (.ref it) (.ref D) (compEnvC scope (cellsFrom (s3.heap.objs.size + 1) scope.names (cloFrom X.env.cells scope.names [])) s3.heap.objs.size X.env)) (compPost (model X.prog X.w) X.A X.xe use Qf (.ref D) s3.heap.objs.size) { s3 with heap := pushCells (s3.heap.push { cls := .type "dict", data := .dict #[] }) scope.names }
  have nfp : ∀ b ∈ fp, (upd H2 D (o0 D)) b = none := fun b hb => (f3 b hb).1.1
  generalize hce : compEnvC scope (cellsFrom (s3.heap.objs.size + 1) scope.names (cloFrom X.env.cells scope.names [])) s3.heap.objs.size X.env = ce at I4 pg pt pk pv pins' ⊢
  have cL : ce.locals = s3.heap.objs.size := by subst hce; rfl
  generalize hH3 : upd H2 D (o0 D) = H3 at I3 I4 pg pt pk pv pins' w0 nfp f3
  generalize hs4 : ({ s3 with heap := pushCells (s3.heap.push { cls := .type "dict", data := .dict #[] }) scope.names } : Shared) = s4 at I4 ⊢
  have st4 : tn 0 s4.heap := T.keep _ _ _ st3 fun b _ o e => by rw [← hs4]; exact pushCells_keeps _ _ _ _ (Heap.get?_push_of_some _ e)
  have stat : ∀ {σ' : St} {H' : Hp} {s' : Shared}, Inv (X.blk s3 H3 scope ce fp) [] σ' H' s' → (∀ b ∈ fp, H' b = none) → ∀ b ∈ fp, FpOk (X.blk s3 H3 scope ce fp) [] H' b := fun {σ' H' s'} I' hn b hb =>
    ⟨hn b hb, (I'.ok.exf b hb).1, I'.ok.exfs b hb, .inl hb, fun x c e => (I'.ok.exf b hb).2 x c e, fun p hp => absurd (show p ∈ ([] : List (Addr × Obj)) ++ [] from hp) (by simp)⟩
  have back : ∀ (s6 : Shared) (H5 : Hp), Inv (X.blk s3 H3 scope ce fp) [] (wipe σ (own.map (·.2))) H5 s6 → Q (.ref D) H5 → compPost (model X.prog X.w) X.A X.xe use Qf (.ref D) s3.heap.objs.size (.ok .next) s6 := by
    intro s6 H5 I6 qq
    have I7 : Inv X pins σ H5 s6 := I3.call' (ch := fp) I6.os I6.base I6.hok I6.bare fun b hb => ⟨(f3 b hb).1.2.2.2.1, (f3 b hb).1.2.1, (f3 b hb).1.2.2.2.2.1, (f3 b hb).1.2.2.2.2.2⟩
    have nC : H5 s3.heap.objs.size = none := by
      have z : H5 ce.locals = none := I6.free
      rwa [cL] at z
    obtain ⟨m, hn, _⟩ := I6.loc
    have hn : s6.heap.Ns ce.locals m := hn
    rw [cL] at hn
    exact hRR D _ s6 m H5 I7 qq hn (I3.fpOk (Nat.le_refl _) nC)
  have loop : codeAny (model X.prog X.w) X.A (.compLoop (.DictComp kx vx [⟨tg, iter, ifs, 0⟩] scope pos) 0 (.ref it) (.ref D) ce) (compPost (model X.prog X.w) X.A X.xe use Qf (.ref D) s3.heap.objs.size) s4 := by
    refine compLoop_anyD (fun n s' => ∃ i H', Inv (X.blk s3 H3 scope ce fp) [] (wipe σ (own.map (·.2))) H' s' ∧ tn i s'.heap ∧ (∀ b ∈ fp, H' b = none) ∧ W i n H') ?_ m0 ⟨0, H3, I4, st4, nfp, w0⟩
    rintro n s5 ⟨i, H5, I5, st5, n5, w5⟩
    rcases turn i n H5 w5 with ⟨stop, qq⟩ | ⟨go, Nx, hNx, step⟩
    · refine thnF (T.done (X.blk s3 H3 scope ce fp) rfl rfl rfl hc i [] s5 _ H5 (fun _ _ => False) I5 (stat I5 n5) st5 stop) fun r s6 ⟨hr, I6⟩ => ?_
      subst hr
      exact back s6 H5 I6 qq
    · refine thnF (T.item (X.blk s3 H3 scope ce fp) rfl rfl rfl hc i [] s5 _ H5 (fun _ _ => False) I5 (stat I5 n5) st5 go) fun r s6 ⟨u, hr, h6⟩ => ?_
      subst hr
      refine thnF h6 fun _ s7 ⟨x, H7, I7, r7, y7, st7, n7⟩ => ?_
      have I7' := I7.pinned (stat I7 n7) (T.obj _ _ st7)
      refine thnF (pg.run _ s7 _ H7 x u _ I7' r7 (step x H7 y7)) fun _ s8 ⟨σ8, H8, I8, hw8, q8⟩ => ?_
      refine thnF (pt.run _ s8 σ8 H8 _ I8 q8) fun b s9 ⟨H9, I9, q9⟩ => ?_
      have fin : ∀ {s' : Shared} {H' : Hp}, Inv (X.blk s3 H3 scope ce fp) ([] ++ pinsAt fp s7.heap) σ8 H' s' → Nx H' → ∃ m, m < n ∧ ∃ i H', Inv (X.blk s3 H3 scope ce fp) [] (wipe σ (own.map (·.2))) H' s' ∧ tn i s'.heap ∧ (∀ b ∈ fp, H' b = none) ∧ W i m H' := by
        intro s' H' I' nx
        obtain ⟨m', hm, w'⟩ := hNx H' nx
        have pin' : ∀ b ∈ fp, ∀ o, s7.heap.get? b = some o → s'.heap.get? b = some o ∧ H' b = none := fun b hb o e =>
          let z := I'.pin (b, o) (List.mem_append_right _ (List.mem_append_right _ (mem_pinsAt hb e)))
          ⟨z.1, z.2.1⟩
        refine ⟨m', hm, i + 1, H', (I'.unpinned (pins := [])).weak (by rw [← hw8, wipe_length]) (fun j v e => ?_), T.keep _ _ _ st7 fun b hb o e => (pin' b hb o e).1, fun b hb => ?_, w'⟩
        · rw [← hw8] at e
          exact (wipe_some e).1
        · obtain ⟨o, e, _⟩ := T.obj _ _ st7 b hb
          exact (pin' b hb o e).2
      cases b with
      | false => exact fin I9 q9
      | true =>
        refine thnF (pk.run _ s9 σ8 H9 _ I9 q9) fun z s10 ⟨yk, H10, I10, r10, q10⟩ => ?_
        refine thnF (pv.run _ s10 σ8 H10 _ I10 q10) fun z2 s11 ⟨yv, H11, I11, r11, q11⟩ => ?_
        exact thnF (pins' _ _ _ _ _ _ _ _ _ _ _ I11 r10 r11 q11) fun _ s12 ⟨H12, I12, nx⟩ => fin I12 nx
  exact codeAny_compStart_dict loop (T.self X.A 0 _ _ _ st4 loop)
theorem pe_dg {o0 : Addr → HO} {ins : InsT} {kx vx tg iter : Expr} {ifs : List Expr} {scope : Scope} {own : List (Str × Nat)} {pos : Pos} {wi : TI} {g : TG} {tt : TT} {tk tv : TE} (hnew : ∀ (H : Hp) (h : Heap), ObjOk X.prog X.w H (h.push emptyD) h.objs.size (o0 h.objs.size) ∨ ¬ sysModules < h.objs.size)
    (hins : ∀ (s : Shared) (H : Hp) (ce : PySem.Env) (fp : List Addr), InsAt (X.blk s H scope ce fp) ins) (hc : X.calm = true) (hN : X.N.Nodup) (hi : PI X tg iter wi) (ok : BlkOk X.N X.env.scope scope own)
    (hg : ∀ (s : Shared) (H : Hp) (C : Addr) (cl : List (Str × Addr)) (fp : List Addr), PG (X.blk s H scope (compEnvC scope cl C X.env) fp) tg g) (ht : ∀ (s : Shared) (H : Hp) (C : Addr) (cl : List (Str × Addr)) (fp : List Addr), PTs (X.blk s H scope (compEnvC scope cl C X.env) fp) ifs tt)
    (hk : ∀ (s : Shared) (H : Hp) (C : Addr) (cl : List (Str × Addr)) (fp : List Addr), PE (X.blk s H scope (compEnvC scope cl C X.env) fp) kx tk)
    (he : ∀ (s : Shared) (H : Hp) (C : Addr) (cl : List (Str × Addr)) (fp : List Addr), PE (X.blk s H scope (compEnvC scope cl C X.env) fp) vx tv) (hs : ∀ x, foldedSetIterable iter X.env x = pure x := by intro _; rfl) :
    PE X (.DictComp kx vx [⟨tg, iter, ifs, 0⟩] scope pos) (tDg o0 ins wi g tt tk tv (own.map (·.2))) := by
  refine ⟨fun pins s σ H Q I h => ?_⟩
  rw [arm_eval_DictComp]
  refine dg_core hnew hins hc hN hi ok hg ht hk he hs I h fun D C s' m H' I' q hn f => ⟨m, hn, fun h'' sb => ?_⟩
  obtain ⟨f0, f1, f2, f3, f4, f5⟩ := f
  exact ⟨.ref D, H', I'.turned (t' := s'.toks) (fun b o hb e => (sb.2 b hb).trans e) f0 f1 f3 f4 f5, rfl, q⟩
theorem ps_setDg {i : Nat} {y : Str} {py spos : Pos} {o0 : Addr → HO} {ins : InsT} {kx vx tg iter : Expr} {ifs : List Expr} {scope : Scope} {own : List (Str × Nat)} {pos : Pos} {wi : TI} {g : TG} {tt : TT} {tk tv : TE} (hnew : ∀ (H : Hp) (h : Heap), ObjOk X.prog X.w H (h.push emptyD) h.objs.size (o0 h.objs.size) ∨ ¬ sysModules < h.objs.size)
    (hins : ∀ (s : Shared) (H : Hp) (ce : PySem.Env) (fp : List Addr), InsAt (X.blk s H scope ce fp) ins) (hc : X.calm = true) (hN : X.N.Nodup) (hy : X.N[i]? = some y) (hyl : X.env.scope.names.lookup y = some .local) (hsw : swapsWith (.DictComp kx vx [⟨tg, iter, ifs, 0⟩] scope pos) (some (.Name y py)) spos.line X.env = pure true) (hi : PI X tg iter wi) (ok : BlkOk X.N X.env.scope scope own)
    (hg : ∀ (s : Shared) (H : Hp) (C : Addr) (cl : List (Str × Addr)) (fp : List Addr), PG (X.blk s H scope (compEnvC scope cl C X.env) fp) tg g) (ht : ∀ (s : Shared) (H : Hp) (C : Addr) (cl : List (Str × Addr)) (fp : List Addr), PTs (X.blk s H scope (compEnvC scope cl C X.env) fp) ifs tt)
    (hk : ∀ (s : Shared) (H : Hp) (C : Addr) (cl : List (Str × Addr)) (fp : List Addr), PE (X.blk s H scope (compEnvC scope cl C X.env) fp) kx tk)
    (he : ∀ (s : Shared) (H : Hp) (C : Addr) (cl : List (Str × Addr)) (fp : List Addr), PE (X.blk s H scope (compEnvC scope cl C X.env) fp) vx tv) (hs : ∀ x, foldedSetIterable iter X.env x = pure x := by intro _; rfl) :
    PS X (.Assign [.Name y py] (.DictComp kx vx [⟨tg, iter, ifs, 0⟩] scope pos) spos) (tAsg (tDg o0 ins wi g tt tk tv (own.map (·.2))) (gName i)) := by
  refine ⟨fun pins s σ H D I h => ?_⟩
  rw [exec_Assign_Name_used _ _ _ _ hsw]
  refine wpAny_bind (wpAny_standAt (wpAny_bind ?_))
  show wpAny _ X.A (do let _ ← comprehension (.DictComp kx vx [⟨tg, iter, ifs, 0⟩] scope pos) scope X.env (firstIterPos [⟨tg, iter, ifs, 0⟩] pos) newDict false (eval iter X.env) (some (assign (.Name y py) X.env))) _ _ s
  have h : tDg o0 ins wi g tt tk tv (own.map (·.2)) σ H (fun x H1 => gName i x σ H1 D.nx) := h
  refine wpAny_bind (thn (dg_core (Qf := fun _ s' => SP X pins D .next s') hnew hins hc hN hi ok hg ht hk he hs I h fun L C s' m H' I' q hn f => ?_) fun _ s' hq => wpAny_pure (wpAny_pure hq))
  show wpAny _ _ (assign (.Name y py) X.env (.ref L)) _ _ _
  refine wpAny_assign_Name (store_ok2 (v := V.ref L) I' hN hy (.inl hyl) rfl (fun s2 I2 ⟨a, sb, ha⟩ => ?_) (.inr hyl))
  obtain ⟨g0, g1, g2, g3, g4, g5⟩ := f
  have hCa : C ≠ a := by
    rcases ha with z | z
    · rw [z]; exact g1
    · exact fun e => g4 y a z e.symm
  exact ⟨m, hn.sameBut sb hCa, fun h3 sb3 => ⟨_, H', I2.turned (t' := s2.toks) (fun b o hb e => (sb3.2 b hb).trans e) g0 g1 g3 g4 g5, q⟩⟩
theorem sw_dc {kx vx : Expr} {gs : List Comprehension} {scope : Scope} {pos py : Pos} {y : Str} {l : Nat} {env : PySem.Env} (hk : env.scope.kind = .function) (hy : env.scope.names.lookup y = some .local) (hl : (py.line == pos.line) = true)
    (ha : (scope.names.any fun (n, k) => n == y && (k == .local || k == .cell)) = false) : swapsWith (.DictComp kx vx gs scope pos) (some (.Name y py)) l env = pure true := by
  have ky : env.kindOf y = some .local := hy
  have hb : env.blockKind = .function := by unfold Env.blockKind; rw [hk]; rfl
  unfold swapsWith
  simp only [hb, ky, ha, Expr.pos, hl]
  rfl
end
end PD

set_option Elab.async false
set_option linter.all false
set_option maxRecDepth 100000
set_option maxHeartbeats 2000000
set_option autoImplicit false
namespace PD
open PySem L2 PySem.Spec

/-! ### dict comprehensions, by data -/
abbrev Put := PyData → PyData → PyData → Option PyData
def dcLoop (g : PyData → Env → Option Env) (tt : DenB) (tk tv : Den) (put : Put) (vs : List Nat) : List PyData → PyData → Env → Out PyData
  | [], acc, ρ => .ok acc ρ
  | d :: ds, acc, ρ => match g d ρ with
    | none => .bad
    | some ρ1 => match tt ρ1 with
      | .ok true ρ2 => (match tk ρ2 with
        | .ok y ρ3 => (match tv ρ3 with
          | .ok z ρ4 => (match put acc y z with
            | some acc' => dcLoop g tt tk tv put vs ds acc' (wipeE ρ4 vs)
            | none => .bad)
          | _ => .bad)
        | _ => .bad)
      | .ok false ρ2 => dcLoop g tt tk tv put vs ds acc (wipeE ρ2 vs)
      | _ => .bad
def dDC (put : Put) (d0 : PyData) (it : DenL) (g : PyData → Env → Option Env) (tt : DenB) (tk tv : Den) (vs : List Nat) : Den := fun ρ => (it ρ).bind fun ds ρ => match dcLoop g tt tk tv put vs ds d0 (wipeE ρ vs) with
  | .ok d ρend => .ok d (unwipe ρ ρend vs)
  | _ => .bad
structure PutD (T : Kt) (o0 : Addr → HO) (ins : InsT) (put : Put) (d0 : PyData) : Prop where
  start : ∀ (F H : Hp) (D : Addr), (D == sysModules) = false → Top T (upd H D (o0 D)) F D d0
  mt : isMut d0 = true ∧ ∀ a y z d, put a y z = some d → isMut d = true
  step : ∀ (F H : Hp) (D : Addr) (acc ya za d' : PyData) (y z : V) (Q : Hp → Prop), Sub F H → F D = none → Top T H F D acc → Rep T F ya y → Rep T F za z → put acc ya za = some d' → (∀ ob, Top T (upd H D ob) F D d' → Q (upd H D ob)) → ins D y z H Q
section
variable {X : Cx} {W : WX} {M : List Md} {k : Kd} {pos : Pos} {tg : Expr}
/-- what stands between two turns -/
structure DcW (X : Cx) (M : List Md) (G F0 : Hp) (σ : St) (vs : List Nat) (D : Addr) (g : PyData → Env → Option Env) (tt : DenB) (tk tv : Den) (put : Put) (ds : List PyData) (dfin : PyData) (ρend : Env) (i : Nat) (H : Hp) : Prop where
  le : i ≤ ds.length
  ex : ∃ ρ F ob acc, SR (kt X) M (upd G D ob) F ρ (wipe σ vs) H ∧ Sub F0 F ∧ F D = none ∧ Top (kt X) H F D acc ∧ isMut acc = true ∧ dcLoop g tt tk tv put vs (ds.drop i) acc ρ = .ok dfin ρend
theorem dc_turn {bb : Bool} {o0 : Addr → HO} {ins : InsT} {put : Put} {d0 : PyData} (P : PutD (kt X) o0 ins put d0) {G F0 : Hp} {σ : St} {vs : List Nat} {D : Addr} {g : PyData → Env → Option Env} {tt : DenB} {tk tv : Den} {ds : List PyData} {dfin : PyData} {ρend : Env} {i : Nat} {H : Hp} {J : It} (hG : G D = none) (wk : Wk bb (kt X) J ds F0)
    (w : DcW X M G F0 σ vs D g tt tk tv put ds dfin ρend i H) {tgt : TG} {ttt : TT} {tkt tvt : TE}
    (qg : ∀ v σ H Q, (∃ G F ρ d ρ', SR (kt X) M G F ρ σ H ∧ RepB bb (kt X) F d v ∧ g d ρ = some ρ' ∧ (∀ σ', SR (kt X) M G F ρ' σ' H → Keep M σ σ' → (∀ i, i ∉ vs → σ'[i]? = σ[i]?) → Q σ' H)) → tgt v σ H Q)
    (qt : ∀ σ H Q, (∃ G F ρ, SR (kt X) M G F ρ σ H ∧ Post X W0 M G F σ (tt ρ) (fun c _ _ H' => Q c H')) → ttt σ H Q)
    (qk : ∀ σ H Q, (∃ G F ρ, SR (kt X) M G F ρ σ H ∧ Post X W0 M G F σ (tk ρ) (fun d ρ' F' H' => ∀ v, ResK .sh (kt X) M G F' H' ρ' σ v d → Q v H')) → tkt σ H Q)
    (qv : ∀ σ H Q, (∃ G F ρ, SR (kt X) M G F ρ σ H ∧ Post X W0 M G F σ (tv ρ) (fun d ρ' F' H' => ∀ v, ResK .sh (kt X) M G F' H' ρ' σ v d → Q v H')) → tvt σ H Q) (hlt : i < ds.length) :
    J.go i H ∧ ∀ x H', J.yld i H x H' → tgt x (wipe σ vs) H' fun σ2 H2 => wipe σ2 vs = wipe σ vs ∧ ttt σ2 H2 fun b H3 =>
      if b = true then tkt σ2 H3 fun y H4 => tvt σ2 H4 fun z H5 => ins D y z H5 (DcW X M G F0 σ vs D g tt tk tv put ds dfin ρend (i + 1))
      else DcW X M G F0 σ vs D g tt tk tv put ds dfin ρend (i + 1) H3 := by
  obtain ⟨_, ρ, F, ob, acc, S, s0, hF, tp, mu, el⟩ := w
  obtain ⟨hgo, hy⟩ := (wk i F H s0 S.fh).1 ds[i] (List.getElem?_eq_getElem hlt)
  refine ⟨hgo, fun x H' y => ?_⟩
  obtain ⟨sH, F2, s2, tr, rx⟩ := hy x H' y
  have S2 := tr _ _ _ _ S
  have keepT : ∀ {F' H'' : Hp} {ρ' : Env} {σ' : St}, SR (kt X) M (upd G D ob) F' ρ' σ' H'' → Sub F F' → Top (kt X) H'' F' D acc := fun S' s' => tp.mono ((S'.gh D _ upd_same).trans (S.gh D _ upd_same).symm) s'
  rw [List.drop_eq_getElem_cons hlt] at el
  unfold dcLoop at el
  cases e1 : g ds[i] ρ with
  | none => rw [e1] at el; cases el
  | some ρ1 =>
    rw [e1] at el
    dsimp only at el
    refine qg _ _ _ _ ⟨_, F2, ρ, ds[i], ρ1, S2, rx, e1, fun σ2 S3 k3 o3 => ?_⟩
    have l3 : σ2.length = σ.length := k3.1.trans (wipe_length σ vs)
    refine ⟨wipe_eq l3 o3, ?_⟩
    cases e2 : tt ρ1 with
    | bad => rw [e2] at el; cases el
    | exc _ _ => rw [e2] at el; cases el
    | ok b ρ2 =>
      rw [e2] at el
      refine qt _ _ _ ⟨_, F2, ρ1, S3, ?_⟩
      rw [e2]
      intro F3 H3 s3 S4
      cases b with
      | false =>
        rw [if_neg Bool.false_ne_true]
        dsimp only at el
        exact ⟨hlt, wipeE ρ2 vs, F3, ob, acc, wipe_sr S4 l3 o3, (s0.tr s2).tr s3, S4.dj D _ upd_same, keepT S4 (s2.tr s3), mu, el⟩
      | true =>
        rw [if_pos rfl]
        dsimp only at el
        cases e3 : tk ρ2 with
        | bad => rw [e3] at el; cases el
        | exc _ _ => rw [e3] at el; cases el
        | ok yd ρ3 =>
          rw [e3] at el
          dsimp only at el
          refine qk _ _ _ ⟨_, F3, ρ2, S4, ?_⟩
          rw [e3]
          intro F4 H4 s4 S5 v rv
          cases e4 : tv ρ3 with
          | bad => rw [e4] at el; cases el
          | exc _ _ => rw [e4] at el; cases el
          | ok zd ρ4 =>
            rw [e4] at el
            dsimp only at el
            refine qv _ _ _ ⟨_, F4, ρ3, S5, ?_⟩
            rw [e4]
            intro F5 H5 s5 S6 u ru
            cases e5 : put acc yd zd with
            | none => rw [e5] at el; cases el
            | some d' =>
              rw [e5] at el
              dsimp only at el
              have hF5 : F5 D = none := S6.dj D _ upd_same
              refine P.step F5 H5 D acc yd zd d' v u _ S6.fh hF5 (keepT S6 ((s2.tr s3).tr (s4.tr s5))) (Rep.mono s5 rv) ru e5 fun ob' tp' => ?_
              exact ⟨hlt, wipeE ρ4 vs, F5, ob', d', wipe_sr (S6.turn hF5 hG) l3 o3, ((s0.tr s2).tr s3).tr (s4.tr s5), hF5, tp', P.mt.2 _ _ _ _ e5, el⟩
theorem dc_end {G F0 H0 : Hp} {ρ0 : Env} {σ : St} {vs : List Nat} {D : Addr} {g : PyData → Env → Option Env} {tt : DenB} {tk tv : Den} {put : Put} {ds : List PyData} {dfin : PyData} {ρend : Env} {H : Hp} {Q : VK} (hvs : ∀ i ∈ vs, M[i]? = some .sh) (hG : G D = none)
    (S0 : SR (kt X) M G F0 ρ0 σ H0) (w : DcW X M G F0 σ vs D g tt tk tv put ds dfin ρend ds.length H) (p : Post X W M G F0 σ (.ok dfin (unwipe ρ0 ρend vs)) fun d ρ' F' H' => ∀ v, ResK .fr (kt X) M G F' H' ρ' σ v d → Q v H') : Q (.ref D) H := by
  obtain ⟨_, ρ, F, ob, acc, S, s0, hF, tp, mu, el⟩ := w
  rw [List.drop_length] at el
  unfold dcLoop at el
  cases el
  have S1 := S.unguard (Sub.mk hG)
  have hap := S.apart (p := D) upd_same
  have back : ∀ n a, OwnAt M (unwipe ρ0 ρend vs) σ n a → OwnAt M ρend (wipe σ vs) n a := by
    rintro n a ⟨m, d, h1, h2, h3, h4⟩
    rcases unwipe_some h3 with ⟨hm, _⟩ | ⟨hm, h3⟩
    · rw [hvs n hm] at h1; cases h1; cases h2
    · exact ⟨m, d, h1, h2, h3, by rw [wipe_out' hm]; exact h4⟩
  have S2 : SR (kt X) M G F (unwipe ρ0 ρend vs) σ H := by
    refine ⟨S1.gh, S1.fh, by rw [unwipe_length]; exact S1.lm, by rw [unwipe_length]; exact Nat.le_trans S1.ls (Nat.le_of_eq (wipe_length σ vs)), fun i d m hd hm => ?_, fun i j a oi oj => S1.ap i j a (back i a oi) (back j a oj), S1.dj⟩
    rcases unwipe_some hd with ⟨hv, hd⟩ | ⟨hv, hd⟩
    · rw [hvs i hv] at hm; cases hm
      obtain ⟨v, e, r⟩ := S0.sl i d .sh hd (hvs i hv)
      exact ⟨v, e, r.mono s0⟩
    · have q := S1.sl i d m hd hm
      rw [wipe_out' hv] at q
      exact q
  exact p F H s0 S2 _ ⟨fun q => (by rw [mu] at q; cases q), fun _ => ⟨D, rfl, hG, hF, tp, fun i oi => hap i (back i D oi)⟩⟩
theorem dc_read {bb : Bool} {o0 : Addr → HO} {ins : InsT} {put : Put} {d0 : PyData} (P : PutD (kt X) o0 ins put d0) {wi : TI} {tgt : TG} {ttt : TT} {tkt tvt : TE} {it : DenL} {g : PyData → Env → Option Env} {tt : DenB} {tk tv : Den} {vs : List Nat} (hvs : ∀ i ∈ vs, M[i]? = some .sh)
    (qi : ∀ G F ρ σ H R, SR (kt X) M G F ρ σ H → Post X W M G F σ (it ρ) (fun ds ρ' F' H' => ∀ J, Wk bb (kt X) J ds F' → R J H') → wi σ H R)
    (qg : ∀ v σ H Q, (∃ G F ρ d ρ', SR (kt X) M G F ρ σ H ∧ RepB bb (kt X) F d v ∧ g d ρ = some ρ' ∧ (∀ σ', SR (kt X) M G F ρ' σ' H → Keep M σ σ' → (∀ i, i ∉ vs → σ'[i]? = σ[i]?) → Q σ' H)) → tgt v σ H Q)
    (qt : ∀ σ H Q, (∃ G F ρ, SR (kt X) M G F ρ σ H ∧ Post X W0 M G F σ (tt ρ) (fun c _ _ H' => Q c H')) → ttt σ H Q)
    (qk : ∀ σ H Q, (∃ G F ρ, SR (kt X) M G F ρ σ H ∧ Post X W0 M G F σ (tk ρ) (fun d ρ' F' H' => ∀ v, ResK .sh (kt X) M G F' H' ρ' σ v d → Q v H')) → tkt σ H Q)
    (qv : ∀ σ H Q, (∃ G F ρ, SR (kt X) M G F ρ σ H ∧ Post X W0 M G F σ (tv ρ) (fun d ρ' F' H' => ∀ v, ResK .sh (kt X) M G F' H' ρ' σ v d → Q v H')) → tvt σ H Q)
    {G F H : Hp} {ρ : Env} {σ : St} {Q : VK} (S : SR (kt X) M G F ρ σ H) (w : Post X W M G F σ (dDC put d0 it g tt tk tv vs ρ) fun d ρ' F' H' => ∀ v, ResK .fr (kt X) M G F' H' ρ' σ v d → Q v H') : tDg o0 ins wi tgt ttt tkt tvt vs σ H Q := by
  refine qi _ _ _ _ _ _ S ((Post.bind w).imp fun ds ρ0 F1 H1 s1 S1 w1 J wk => ?_)
  intro D hD lowD
  cases el : dcLoop g tt tk tv put vs ds d0 (wipeE ρ0 vs) with
  | bad => rw [el] at w1; exact w1.elim
  | exc _ _ => rw [el] at w1; exact w1.elim
  | ok dfin ρend =>
    rw [el] at w1
    dsimp only at w1
    have hG : G D = none := S1.gh.none hD
    have hF : F1 D = none := S1.fh.none hD
    have start : DcW X M G F1 σ vs D g tt tk tv put ds dfin ρend 0 (upd H1 D (o0 D)) := by
      refine ⟨Nat.zero_le _, wipeE ρ0 vs, F1, o0 D, d0, ?_, Sub.rfl', hF, P.start F1 H1 D lowD, P.mt.1, by rw [List.drop_zero]; exact el⟩
      refine (S1.fresh hD |>.forget (wipeE_length _ _) (wipe_length _ _) fun i d hd => ?_).guard upd_same hF fun i oi => ?_
      · obtain ⟨h1, h2⟩ := wipeE_some hd
        exact ⟨h1, wipe_out' h2⟩
      · obtain ⟨m, d, h1, h2, h3, h4⟩ := oi
        obtain ⟨h3', h5⟩ := wipeE_some h3
        rw [wipe_out' h5] at h4
        obtain ⟨_, _, u, hu⟩ := S1.own ⟨m, d, h1, h2, h3', h4⟩
        rw [hD] at hu; cases hu
    refine ⟨fun i m H' => m = ds.length - i ∧ DcW X M G F1 σ vs D g tt tk tv put ds dfin ρend i H', ⟨_, rfl, start⟩, ?_⟩
    rintro i m H' ⟨rfl, lw⟩
    by_cases hlt : i < ds.length
    · obtain ⟨hgo, hy⟩ := dc_turn P hG wk lw (qg)
        (qt) (qk) (qv) hlt
      exact .inr ⟨hgo, DcW X M G F1 σ vs D g tt tk tv put ds dfin ρend (i + 1), fun H2 h2 => ⟨_, by omega, rfl, h2⟩, hy⟩
    · have e : i = ds.length := by have := lw.le; omega
      subst e
      have hfh : Sub F1 H' := by
        obtain ⟨_, ρx, Fx, ox, ax, Sx, sx, _⟩ := lw
        exact sx.tr Sx.fh
      exact .inl ⟨(wk _ F1 H' Sub.rfl' hfh).2 (List.getElem?_eq_none_iff.mpr (Nat.le_refl _)), dc_end hvs hG S1 lw w1⟩
theorem px_dc {bb : Bool} {N : List Str} {sc : Scope} {fn : Str → Bool} {o0 : Addr → HO} {ins : InsT} {put : Put} {d0 : PyData} {kx vx iter : Expr} {ifs : List Expr} {scope : Scope} {own : List (Str × Nat)} {vs' : List Nat} {it : DenL} {g : PyData → Env → Option Env} {tt : DenB} {tk tv : Den} (c : CF X N sc fn)
    (P : PutD (kt X) o0 ins put d0) (hnew : ∀ (H : Hp) (h : Heap), ObjOk X.prog X.w H (h.push emptyD) h.objs.size (o0 h.objs.size) ∨ ¬ sysModules < h.objs.size) (hins : ∀ (s : Shared) (H : Hp) (ce : PySem.Env) (fp : List Addr), InsAt (X.blk s H scope ce fp) ins)
    (hi : PIX bb X W M tg iter it) (ok : blkC N sc scope own = true)
    (hvs : ∀ i ∈ own.map (·.2), M[i]? = some .sh) (hsub : ∀ i ∈ vs', i ∈ own.map (·.2)) (hg : ∀ b, PGX bb (bX X scope b) M tg vs' g) (ht : ∀ b, PXTs (bX X scope b) W0 M ifs tt) (hk : ∀ b, PX (bX X scope b) W0 M .sh kx tk) (he : ∀ b, PX (bX X scope b) W0 M .sh vx tv)
    (hs : ∀ x, foldedSetIterable iter X.env x = pure x := by intro _; rfl) : PX X W M .fr (.DictComp kx vx [⟨tg, iter, ifs, 0⟩] scope pos) (dDC put d0 it g tt tk tv (own.map (·.2))) := by
  obtain ⟨wi, pi, qi⟩ := hi
  obtain ⟨tgt, pg, qg⟩ := PGX.all hg
  obtain ⟨ttt, pt, qt⟩ := PXTs.all ht
  obtain ⟨tkt, pk, qk⟩ := PX.all hk
  obtain ⟨tvt, pv, qv⟩ := PX.all he
  refine ⟨_, pe_dg hnew hins c.calm c.ndX pi (c.hN' ok) (fun s H C cl fp => pg ⟨s, H, C, cl, fp⟩) (fun s H C cl fp => pt ⟨s, H, C, cl, fp⟩) (fun s H C cl fp => pk ⟨s, H, C, cl, fp⟩) (fun s H C cl fp => pv ⟨s, H, C, cl, fp⟩) hs, fun G F ρ σ H Q S w => ?_⟩
  exact dc_read P hvs qi (fun v σ H Q ⟨G, F, ρ, d, ρ', S, r, e, k⟩ => qg v σ H Q fun b => ⟨G, F, ρ, d, ρ', S, r, e, fun σ' S' k' o' => k σ' S' k' fun i hn => o' i fun z => hn (hsub i z)⟩)
    (fun σ H Q ⟨G, F, ρ, S, p⟩ => qt σ H Q fun b => ⟨G, F, ρ, S, p⟩) (fun σ H Q ⟨G, F, ρ, S, p⟩ => qk σ H Q fun b => ⟨G, F, ρ, S, p⟩) (fun σ H Q ⟨G, F, ρ, S, p⟩ => qv σ H Q fun b => ⟨G, F, ρ, S, p⟩) S w
theorem psx_setDC {i : Nat} {y : Str} {py spos : Pos} {bb : Bool} {N : List Str} {sc : Scope} {fn : Str → Bool} {o0 : Addr → HO} {ins : InsT} {put : Put} {d0 : PyData} {kx vx iter : Expr} {ifs : List Expr} {scope : Scope} {own : List (Str × Nat)} {vs' : List Nat} {it : DenL} {g : PyData → Env → Option Env} {tt : DenB} {tk tv : Den} (c : CF X N sc fn) (hy : X.N[i]? = some y) (hyl : X.env.scope.names.lookup y = some .local) (hsw : swapsWith (.DictComp kx vx [⟨tg, iter, ifs, 0⟩] scope pos) (some (.Name y py)) spos.line X.env = pure true)
    (P : PutD (kt X) o0 ins put d0) (hnew : ∀ (H : Hp) (h : Heap), ObjOk X.prog X.w H (h.push emptyD) h.objs.size (o0 h.objs.size) ∨ ¬ sysModules < h.objs.size) (hins : ∀ (s : Shared) (H : Hp) (ce : PySem.Env) (fp : List Addr), InsAt (X.blk s H scope ce fp) ins)
    (hi : PIX bb X W M tg iter it) (ok : blkC N sc scope own = true)
    (hvs : ∀ i ∈ own.map (·.2), M[i]? = some .sh) (hsub : ∀ i ∈ vs', i ∈ own.map (·.2)) (hg : ∀ b, PGX bb (bX X scope b) M tg vs' g) (ht : ∀ b, PXTs (bX X scope b) W0 M ifs tt) (hk : ∀ b, PX (bX X scope b) W0 M .sh kx tk) (he : ∀ b, PX (bX X scope b) W0 M .sh vx tv)
    {fs : Den → DenS} (hend : ∀ {t : TE} {f : Den}, (∀ G F ρ σ H Q, SR (kt X) M G F ρ σ H → Post X W M G F σ (f ρ) (fun d ρ' F' H' => ∀ v, ResK .fr (kt X) M G F' H' ρ' σ v d → Q v H') → t σ H Q) → ∀ G F ρ σ H D, SR (kt X) M G F ρ σ H → PostS X W M k G F σ (fs f ρ) D → tAsg t (gName i) D σ H)
    (hs : ∀ x, foldedSetIterable iter X.env x = pure x := by intro _; rfl) : PSX X W M k (.Assign [.Name y py] (.DictComp kx vx [⟨tg, iter, ifs, 0⟩] scope pos) spos) (fs (dDC put d0 it g tt tk tv (own.map (·.2)))) := by
  obtain ⟨wi, pi, qi⟩ := hi
  obtain ⟨tgt, pg, qg⟩ := PGX.all hg
  obtain ⟨ttt, pt, qt⟩ := PXTs.all ht
  obtain ⟨tkt, pk, qk⟩ := PX.all hk
  obtain ⟨tvt, pv, qv⟩ := PX.all he
  refine ⟨_, ps_setDg hnew hins c.calm c.ndX hy hyl hsw pi (c.hN' ok) (fun s H C cl fp => pg ⟨s, H, C, cl, fp⟩) (fun s H C cl fp => pt ⟨s, H, C, cl, fp⟩) (fun s H C cl fp => pk ⟨s, H, C, cl, fp⟩) (fun s H C cl fp => pv ⟨s, H, C, cl, fp⟩) hs, hend fun G F ρ σ H Q S w => ?_⟩
  exact dc_read P hvs qi (fun v σ H Q ⟨G, F, ρ, d, ρ', S, r, e, k⟩ => qg v σ H Q fun b => ⟨G, F, ρ, d, ρ', S, r, e, fun σ' S' k' o' => k σ' S' k' fun i hn => o' i fun z => hn (hsub i z)⟩)
    (fun σ H Q ⟨G, F, ρ, S, p⟩ => qt σ H Q fun b => ⟨G, F, ρ, S, p⟩) (fun σ H Q ⟨G, F, ρ, S, p⟩ => qk σ H Q fun b => ⟨G, F, ρ, S, p⟩) (fun σ H Q ⟨G, F, ρ, S, p⟩ => qv σ H Q fun b => ⟨G, F, ρ, S, p⟩) S w
/-! keys ints and texts -/
def putF : Put := fun acc y z => match acc, toKey y with
  | .dict ps, some k => if isN ps = false ∧ ps.length < sizeLine then some (.dict (dput ps k z)) else none
  | _, _ => none
def insF : InsT := fun D y z H Q => ∃ kvs k, y = kV k ∧ H D = some (.dK kvs) ∧ kvs.length < sizeLine ∧ Q (upd H D (.dK (putK kvs k z)))
theorem putD_F {T : Kt} : PutD T (fun _ => .dK []) insF putF (.dict []) := by
  refine ⟨fun F H D _ => .dk (kvs := []) (ds := []) upd_same .nil, ⟨rfl, fun a y z d e => ?_⟩, fun F H D acc ya za d' y z Q sF hF tp ry rz e q => ?_⟩
  · unfold putF at e
    split at e
    · split at e
      · cases e; rfl
      · cases e
    · cases e
  · unfold putF at e
    split at e
    · rename_i ps key hk
      split at e
      · rename_i hc
        cases e
        obtain ⟨kvs, ds, h1, r1, rfl⟩ := top_dk tp hc.1
        have hl : ds.length = kvs.length := by simpa using r1.length
        obtain ⟨ds', r', e'⟩ := zk_put (k := key) r1 rz
        refine ⟨kvs, key, toKey_rep ry hk, h1, by rw [← zk_len hl]; exact hc.2, q _ ?_⟩
        rw [e']
        exact .dk upd_same r'
      · cases e
    · cases e
theorem ins_F {Y : Cx} : InsAt Y insF := by
  intro pins σ H s E D y z u r Q I ry rz h
  obtain ⟨kvs, k, rfl, h1, h2, q⟩ := h
  exact d_dictSet I h1 h2 ry rz fun s' I' => ⟨_, I', q⟩
theorem px_dcF {bb : Bool} {N : List Str} {sc : Scope} {fn : Str → Bool} {kx vx iter : Expr} {ifs : List Expr} {scope : Scope} {own : List (Str × Nat)} {vs' : List Nat} {it : DenL} {g : PyData → Env → Option Env} {tt : DenB} {tk tv : Den} (c : CF X N sc fn) (hi : PIX bb X W M tg iter it) (ok : blkC N sc scope own = true)
    (hvs : ∀ i ∈ own.map (·.2), M[i]? = some .sh) (hsub : ∀ i ∈ vs', i ∈ own.map (·.2)) (hg : ∀ b, PGX bb (bX X scope b) M tg vs' g) (ht : ∀ b, PXTs (bX X scope b) W0 M ifs tt) (hk : ∀ b, PX (bX X scope b) W0 M .sh kx tk) (he : ∀ b, PX (bX X scope b) W0 M .sh vx tv)
    (hs : ∀ x, foldedSetIterable iter X.env x = pure x := by intro _; rfl) : PX X W M .fr (.DictComp kx vx [⟨tg, iter, ifs, 0⟩] scope pos) (dDC putF (.dict []) it g tt tk tv (own.map (·.2))) :=
  px_dc c putD_F (fun H h => if z : sysModules < h.objs.size then .inl (dk_empty h z) else .inr z) (fun _ _ _ _ => ins_F) hi ok hvs hsub hg ht hk he hs
/-! keys tuples -/
def putN : Put := fun acc y z => match acc with
  | .dict ((.none, .none) :: ps) => if keyOkN y = true ∧ ps.length < sizeLine then some (.dict ((.none, .none) :: nput ps y z)) else none
  | _ => none
def insN (T : Kt) : InsT := fun D y z H Q => tSetN T (.ref D) y z H Q
theorem putD_N {T : Kt} : PutD T (fun D => exo D emptyD) (insN T) putN (.dict [(.none, .none)]) := by
  refine ⟨fun F H D lo => (ND.top (ks := []) (vs := []) (ents := []) (es := #[]) (ep := 0) ⟨upd_same, ⟨rfl, rfl, rfl⟩, rfl, rfl, List.nodup_nil, lo, Nat.zero_le _, fun _ h => (nomatch h), .nil⟩), ⟨rfl, fun a y z d e => ?_⟩, fun F H D acc ya za d' y z Q sF hF tp ry rz e q => ?_⟩
  · unfold putN at e
    split at e
    · split at e
      · cases e; rfl
      · cases e
    · cases e
  · unfold putN at e
    split at e
    · rename_i ps
      split at e
      · rename_i hc
        cases e
        obtain ⟨a2, ks, vs, ents, ob, es, ep, ea, n, rfl⟩ := brw_dn (.top tp) sF
        cases ea
        obtain ⟨b, rfl, rk, hh, hdp⟩ := keyOkN_out hc.1 (Brw.rep (T := T) (H := H) ry)
        have hl := n.nt.len
        refine ⟨F, D, b, ks, vs, ents, ob, es, ep, ya, za, rfl, rfl, sF, n, hF, rk, hh, hdp, ?_, rz, fun ob' ents' es' ep' ks' vs' n' e' => ?_⟩
        · have := hc.2; rw [List.length_zip] at this; omega
        · refine q (exo D ob') ?_
          rw [e']
          exact n'.top
      · cases e
    · cases e
theorem ins_N {Y : Cx} (hu : Y.A.units + 100 < cLine) : InsAt Y (insN (kt Y)) := by
  intro pins σ H s E D y z u r Q I ri rv h
  obtain ⟨F, a, b, ks, vs, ents, ob, es, ep, yd, d, ea, rfl, sF, n, hFa, rk, hh, hd, hz, rd, q⟩ := h
  cases ea
  cases ri
  refine wpAny_dictSet_heap (knd := nestedKind Y.prog Y.w) (k := nk yd) (show Y.A.units + 8 < cLine by omega) ⟨rep_nested I sF rk hh rfl, hd⟩ (n.of I sF) (fun h' hm' hs => ?_) n.sz
  obtain ⟨ob', es', ep', ho', hx', hd', he', _, hn'⟩ := hm'
  obtain ⟨ks', vs', nt', e'⟩ := n.nt.put hh rk rv rd
  have hl : (storedH ents (nk yd) b r).length ≤ sizeLine := by have := storedH_len ents (nk yd) b r; omega
  have n' : ND (kt Y) F (upd H D (exo D ob')) D ks' vs' _ ob' es' ep' := ⟨upd_same, hx', hd', he', hn', n.low, hl, storedH_depth n.dep hd, nt'⟩
  exact ⟨_, d_write (t' := s.toks + (nestedKind Y.prog Y.w).draws (nk yd)) I (by rw [n.at_]; exact True.intro) hs ⟨ob', ho'⟩ (exo_ok ho'), q ob' _ es' ep' ks' vs' n' e'⟩
theorem px_dcN {bb : Bool} {N : List Str} {sc : Scope} {fn : Str → Bool} {kx vx iter : Expr} {ifs : List Expr} {scope : Scope} {own : List (Str × Nat)} {vs' : List Nat} {it : DenL} {g : PyData → Env → Option Env} {tt : DenB} {tk tv : Den} (c : CF X N sc fn) (hi : PIX bb X W M tg iter it) (ok : blkC N sc scope own = true)
    (hvs : ∀ i ∈ own.map (·.2), M[i]? = some .sh) (hsub : ∀ i ∈ vs', i ∈ own.map (·.2)) (hg : ∀ b, PGX bb (bX X scope b) M tg vs' g) (ht : ∀ b, PXTs (bX X scope b) W0 M ifs tt) (hk : ∀ b, PX (bX X scope b) W0 M .sh kx tk) (he : ∀ b, PX (bX X scope b) W0 M .sh vx tv)
    (hs : ∀ x, foldedSetIterable iter X.env x = pure x := by intro _; rfl) : PX X W M .fr (.DictComp kx vx [⟨tg, iter, ifs, 0⟩] scope pos) (dDC putN (.dict [(.none, .none)]) it g tt tk tv (own.map (·.2))) :=
  px_dc c putD_N (fun H h => .inl (exo_ok (Heap.get?_push_size _ rfl))) (fun s H ce fp => ins_N (Y := X.blk s H scope ce fp) (by have := c.un; show X.A.units + 100 < cLine; omega)) hi ok hvs hsub hg ht hk he hs
end
end PD

set_option Elab.async false
set_option linter.all false
set_option maxRecDepth 100000
set_option maxHeartbeats 2000000
set_option autoImplicit false
namespace PD
open PySem L2 PySem.Spec

/-! ### [elt for a in s for b in t if ..] -/
def lc2Loop (g : PyData → Env → Option Env) (tt : DenB) (it1 : DenL) (g1 : PyData → Env → Option Env) (tt1 : DenB) (te : Den) (vs vs1 : List Nat) : List PyData → DenL
  | [], ρ => .ok [] ρ
  | d :: ds, ρ => match g d ρ with
    | none => .bad
    | some ρ1 => match tt ρ1 with
      | .ok true ρ2 => (match it1 ρ2 with
        | .ok ds1 ρ3 => (match lcLoop g1 tt1 te vs1 ds1 (wipeE ρ3 vs1) with
          | .ok ys ρ4 => (match lc2Loop g tt it1 g1 tt1 te vs vs1 ds (wipeE ρ4 vs) with
            | .ok zs ρ5 => .ok (ys ++ zs) ρ5
            | _ => .bad)
          | _ => .bad)
        | _ => .bad)
      | .ok false ρ2 => lc2Loop g tt it1 g1 tt1 te vs vs1 ds (wipeE ρ2 vs)
      | _ => .bad
def dLC2 (it : DenL) (g : PyData → Env → Option Env) (tt : DenB) (it1 : DenL) (g1 : PyData → Env → Option Env) (tt1 : DenB) (te : Den) (vs vs1 : List Nat) : Den := fun ρ => (it ρ).bind fun ds ρ => match lc2Loop g tt it1 g1 tt1 te vs vs1 ds (wipeE ρ vs) with
  | .ok ys ρend => if ys.length ≤ sizeLine then .ok (.list ys) (unwipe ρ ρend vs) else .bad
  | _ => .bad
section
variable {X : Cx} {W : WX} {M : List Md} {k : Kd} {pos : Pos} {tg tg1 : Expr}
structure Lc2W (X : Cx) (M : List Md) (G F0 : Hp) (σ : St) (vs : List Nat) (D : Addr) (lp : DenL) (total : List PyData) (ρend : Env) (H : Hp) : Prop where
  ex : ∃ ρ F acc done rest, SR (kt X) M (upd G D (.lst acc)) F ρ (wipe σ vs) H ∧ Sub F0 F ∧ F D = none ∧ RepAll (kt X) F done acc ∧ total = done ++ rest ∧ lp ρ = .ok rest ρend
/-- within the second clause -/
structure Lc1W (X : Cx) (M : List Md) (G F0 : Hp) (σ2 : St) (vs1 : List Nat) (D : Addr) (lp1 : DenL) (nxt : DenL) (total : List PyData) (ρend : Env) (H : Hp) : Prop where
  ex : ∃ ρ F acc done rest ρm more, SR (kt X) M (upd G D (.lst acc)) F ρ (wipe σ2 vs1) H ∧ Sub F0 F ∧ F D = none ∧ RepAll (kt X) F done acc ∧ lp1 ρ = .ok rest ρm ∧ nxt ρm = .ok more ρend ∧ total = done ++ (rest ++ more)
theorem lc2_read {bb bb1 : Bool} {wi wi1 : TI} {tgt tgt1 : TG} {ttt ttt1 : TT} {tet : TE} {it it1 : DenL} {g g1 : PyData → Env → Option Env} {tt tt1 : DenB} {te : Den} {vs vs1 : List Nat} (hvs : ∀ i ∈ vs, M[i]? = some .sh) (hv1 : ∀ i ∈ vs1, i ∈ vs)
    (qi : ∀ G F ρ σ H R, SR (kt X) M G F ρ σ H → Post X W M G F σ (it ρ) (fun ds ρ' F' H' => ∀ J, Wk bb (kt X) J ds F' → R J H') → wi σ H R)
    (qg : ∀ v σ H Q, (∃ G F ρ d ρ', SR (kt X) M G F ρ σ H ∧ RepB bb (kt X) F d v ∧ g d ρ = some ρ' ∧ (∀ σ', SR (kt X) M G F ρ' σ' H → Keep M σ σ' → (∀ i, i ∉ vs → σ'[i]? = σ[i]?) → Q σ' H)) → tgt v σ H Q)
    (qt : ∀ σ H Q, (∃ G F ρ, SR (kt X) M G F ρ σ H ∧ Post X W0 M G F σ (tt ρ) (fun c _ _ H' => Q c H')) → ttt σ H Q)
    (qi1 : ∀ σ H R, (∃ G F ρ, SR (kt X) M G F ρ σ H ∧ Post X W0 M G F σ (it1 ρ) (fun ds ρ' F' H' => ∀ J, Wk bb1 (kt X) J ds F' → R J H')) → wi1 σ H R)
    (qg1 : ∀ v σ H Q, (∃ G F ρ d ρ', SR (kt X) M G F ρ σ H ∧ RepB bb1 (kt X) F d v ∧ g1 d ρ = some ρ' ∧ (∀ σ', SR (kt X) M G F ρ' σ' H → Keep M σ σ' → (∀ i, i ∉ vs1 → σ'[i]? = σ[i]?) → Q σ' H)) → tgt1 v σ H Q)
    (qt1 : ∀ σ H Q, (∃ G F ρ, SR (kt X) M G F ρ σ H ∧ Post X W0 M G F σ (tt1 ρ) (fun c _ _ H' => Q c H')) → ttt1 σ H Q)
    (qe : ∀ σ H Q, (∃ G F ρ, SR (kt X) M G F ρ σ H ∧ Post X W0 M G F σ (te ρ) (fun d ρ' F' H' => ∀ v, ResK .sh (kt X) M G F' H' ρ' σ v d → Q v H')) → tet σ H Q)
    {G F H : Hp} {ρ : Env} {σ : St} {Q : VK} (S : SR (kt X) M G F ρ σ H) (w : Post X W M G F σ (dLC2 it g tt it1 g1 tt1 te vs vs1 ρ) fun d ρ' F' H' => ∀ v, ResK .fr (kt X) M G F' H' ρ' σ v d → Q v H') : tLc2 wi tgt ttt wi1 tgt1 ttt1 tet vs vs1 σ H Q := by
  refine qi _ _ _ _ _ _ S ((Post.bind w).imp fun ds ρ0 F1 H1 s1 S1 w1 J wk => ?_)
  intro D hD
  cases el : lc2Loop g tt it1 g1 tt1 te vs vs1 ds (wipeE ρ0 vs) with
  | bad => rw [el] at w1; exact w1.elim
  | exc _ _ => rw [el] at w1; exact w1.elim
  | ok total ρend =>
    rw [el] at w1
    dsimp only at w1
    split at w1
    rotate_left
    · exact w1.elim
    rename_i hz
    have hG : G D = none := S1.gh.none hD
    have hF : F1 D = none := S1.fh.none hD
    have start : Lc2W X M G F1 σ vs D (lc2Loop g tt it1 g1 tt1 te vs vs1 (ds.drop 0)) total ρend (upd H1 D (.lst [])) := by
      refine ⟨wipeE ρ0 vs, F1, [], [], total, ?_, Sub.rfl', hF, .nil, rfl, by rw [List.drop_zero]; exact el⟩
      refine (S1.fresh hD |>.forget (wipeE_length _ _) (wipe_length _ _) fun i d hd => ?_).guard upd_same hF fun i oi => ?_
      · obtain ⟨h1, h2⟩ := wipeE_some hd
        exact ⟨h1, wipe_out' h2⟩
      · obtain ⟨m, d, h1, h2, h3, h4⟩ := oi
        obtain ⟨h3', h5⟩ := wipeE_some h3
        rw [wipe_out' h5] at h4
        obtain ⟨_, _, u, hu⟩ := S1.own ⟨m, d, h1, h2, h3', h4⟩
        rw [hD] at hu; cases hu
    refine ⟨fun i m H' => m = ds.length - i ∧ i ≤ ds.length ∧ Lc2W X M G F1 σ vs D (lc2Loop g tt it1 g1 tt1 te vs vs1 (ds.drop i)) total ρend H', ⟨_, rfl, Nat.zero_le _, start⟩, ?_⟩
    rintro i m H' ⟨rfl, hi, lw⟩
    obtain ⟨ρ, F, acc, done, rest, S, s0, hFD, rd, et, ll⟩ := lw
    by_cases hlt : i < ds.length
    · obtain ⟨hgo, hy⟩ := (wk i F H' s0 S.fh).1 ds[i] (List.getElem?_eq_getElem hlt)
      refine .inr ⟨hgo, fun H2 => Lc2W X M G F1 σ vs D (lc2Loop g tt it1 g1 tt1 te vs vs1 (ds.drop (i + 1))) total ρend H2, fun H2 h2 => ⟨_, by omega, rfl, hlt, h2⟩, fun x H2 y => ?_⟩
      obtain ⟨sH, F2, s2, tr, rx⟩ := hy x H2 y
      have S2 := tr _ _ _ _ S
      rw [List.drop_eq_getElem_cons hlt] at ll
      unfold lc2Loop at ll
      cases e1 : g ds[i] ρ with
      | none => rw [e1] at ll; cases ll
      | some ρ1 =>
        rw [e1] at ll
        dsimp only at ll
        refine qg _ _ _ _ ⟨_, F2, ρ, ds[i], ρ1, S2, rx, e1, fun σ2 S3 k3 o3 => ?_⟩
        have l3 : σ2.length = σ.length := k3.1.trans (wipe_length σ vs)
        refine ⟨wipe_eq l3 o3, ?_⟩
        cases e2 : tt ρ1 with
        | bad => rw [e2] at ll; cases ll
        | exc _ _ => rw [e2] at ll; cases ll
        | ok b ρ2 =>
          rw [e2] at ll
          refine qt _ _ _ ⟨_, F2, ρ1, S3, ?_⟩
          rw [e2]
          intro F3 H3 s3 S4
          cases b with
          | false =>
            rw [if_neg Bool.false_ne_true]
            dsimp only at ll
            exact ⟨wipeE ρ2 vs, F3, acc, done, rest, wipe_sr S4 l3 o3, (s0.tr s2).tr s3, S4.dj D _ upd_same, rd.mono (s2.tr s3), et, ll⟩
          | true =>
            rw [if_pos rfl]
            dsimp only at ll
            cases e3 : it1 ρ2 with
            | bad => rw [e3] at ll; cases ll
            | exc _ _ => rw [e3] at ll; cases ll
            | ok ds1 ρ3 =>
              rw [e3] at ll
              dsimp only at ll
              refine qi1 _ _ _ ⟨_, F3, ρ2, S4, ?_⟩
              rw [e3]
              intro F4 H4 s4 S5 J1 wk1
              cases e4 : lcLoop g1 tt1 te vs1 ds1 (wipeE ρ3 vs1) with
              | bad => rw [e4] at ll; cases ll
              | exc _ _ => rw [e4] at ll; cases ll
              | ok ys ρ4 =>
                rw [e4] at ll
                dsimp only at ll
                cases e5 : lc2Loop g tt it1 g1 tt1 te vs vs1 (ds.drop (i + 1)) (wipeE ρ4 vs) with
                | bad => rw [e5] at ll; cases ll
                | exc _ _ => rw [e5] at ll; cases ll
                | ok zs ρ5 =>
                  rw [e5] at ll
                  cases ll
                  have sF : Sub F F4 := (s2.tr s3).tr s4
                  have st1 : Lc1W X M G F4 σ2 vs1 D (lcLoop g1 tt1 te vs1 (ds1.drop 0)) (fun ρ => lc2Loop g tt it1 g1 tt1 te vs vs1 (ds.drop (i + 1)) (wipeE ρ vs)) total ρend H4 := by
                    refine ⟨wipeE ρ3 vs1, F4, acc, done, ys, ρ4, zs, S5.forget (wipeE_length _ _) (wipe_length _ _) fun j d hd => ?_, Sub.rfl', S5.dj D _ upd_same, rd.mono sF, by rw [List.drop_zero]; exact e4, e5, et⟩
                    obtain ⟨h1, h2⟩ := wipeE_some hd
                    exact ⟨h1, wipe_out' h2⟩
                  refine ⟨fun j m H' => m = ds1.length - j ∧ j ≤ ds1.length ∧ Lc1W X M G F4 σ2 vs1 D (lcLoop g1 tt1 te vs1 (ds1.drop j)) (fun ρ => lc2Loop g tt it1 g1 tt1 te vs vs1 (ds.drop (i + 1)) (wipeE ρ vs)) total ρend H', ⟨_, rfl, Nat.zero_le _, st1⟩, ?_⟩
                  rintro j m H5 ⟨rfl, hj, lw1⟩
                  obtain ⟨ρ6, F6, acc6, done6, rest6, ρm, more, S6, s6, hF6, rd6, el6, en6, et6⟩ := lw1
                  by_cases hl1 : j < ds1.length
                  · obtain ⟨hgo1, hy1⟩ := (wk1 j F6 H5 s6 S6.fh).1 ds1[j] (List.getElem?_eq_getElem hl1)
                    refine .inr ⟨hgo1, fun H6 => Lc1W X M G F4 σ2 vs1 D (lcLoop g1 tt1 te vs1 (ds1.drop (j + 1))) (fun ρ => lc2Loop g tt it1 g1 tt1 te vs vs1 (ds.drop (i + 1)) (wipeE ρ vs)) total ρend H6, fun H6 h6 => ⟨_, by omega, rfl, hl1, h6⟩, fun x1 H6 y1 => ?_⟩
                    obtain ⟨sH6, F7, s7, tr7, rx7⟩ := hy1 x1 H6 y1
                    have S7 := tr7 _ _ _ _ S6
                    rw [List.drop_eq_getElem_cons hl1] at el6
                    unfold lcLoop at el6
                    cases f1 : g1 ds1[j] ρ6 with
                    | none => rw [f1] at el6; cases el6
                    | some ρ7 =>
                      rw [f1] at el6
                      dsimp only at el6
                      refine qg1 _ _ _ _ ⟨_, F7, ρ6, ds1[j], ρ7, S7, rx7, f1, fun σ3 S8 k8 o8 => ?_⟩
                      have l8 : σ3.length = σ2.length := k8.1.trans (wipe_length σ2 vs1)
                      refine ⟨wipe_eq l8 o8, ?_⟩
                      cases f2 : tt1 ρ7 with
                      | bad => rw [f2] at el6; cases el6
                      | exc _ _ => rw [f2] at el6; cases el6
                      | ok b1 ρ8 =>
                        rw [f2] at el6
                        refine qt1 _ _ _ ⟨_, F7, ρ7, S8, ?_⟩
                        rw [f2]
                        intro F8 H8 s8 S9
                        cases b1 with
                        | false =>
                          rw [if_neg Bool.false_ne_true]
                          dsimp only at el6
                          exact ⟨wipeE ρ8 vs1, F8, acc6, done6, rest6, ρm, more, wipe_sr S9 l8 o8, (s6.tr s7).tr s8, S9.dj D _ upd_same, rd6.mono (s7.tr s8), el6, en6, et6⟩
                        | true =>
                          rw [if_pos rfl]
                          dsimp only at el6
                          cases f3 : te ρ8 with
                          | bad => rw [f3] at el6; cases el6
                          | exc _ _ => rw [f3] at el6; cases el6
                          | ok yd ρ9 =>
                            rw [f3] at el6
                            dsimp only at el6
                            refine qe _ _ _ ⟨_, F8, ρ8, S9, ?_⟩
                            rw [f3]
                            intro F9 H9 s9 S10 v rv
                            have hF9 : F9 D = none := S10.dj D _ upd_same
                            cases f4 : lcLoop g1 tt1 te vs1 (ds1.drop (j + 1)) (wipeE ρ9 vs1) with
                            | bad => rw [f4] at el6; cases el6
                            | exc _ _ => rw [f4] at el6; cases el6
                            | ok r6 ρ10 =>
                              rw [f4] at el6
                              cases el6
                              have ra := rd6.mono ((s7.tr s8).tr s9)
                              refine ⟨acc6, S10.gh D _ upd_same, ?_, wipeE ρ9 vs1, F9, acc6 ++ [v], done6 ++ [yd], r6, ρm, more, wipe_sr (S10.turn hF9 hG) l8 o8, ((s6.tr s7).tr s8).tr s9, hF9, ra.append (.cons rv .nil), f4, en6, by rw [et6]; simp⟩
                              rw [← rd6.length]
                              rw [et6, List.length_append, List.length_append, List.length_cons] at hz
                              omega
                  · have e : j = ds1.length := by omega
                    subst e
                    rw [List.drop_length] at el6
                    unfold lcLoop at el6
                    cases el6
                    refine .inl ⟨(wk1 _ F6 H5 s6 S6.fh).2 (List.getElem?_eq_none_iff.mpr (Nat.le_refl _)), wipeE ρ6 vs, F6, acc6, done6, more, S6.forget (wipeE_length _ _) ?_ fun n d hd => ?_, (s0.tr sF).tr s6, hF6, rd6, by rw [et6]; rfl, en6⟩
                    · rw [wipe_length, wipe_length]; exact l3.symm
                    · obtain ⟨h1, h2⟩ := wipeE_some hd
                      refine ⟨h1, ?_⟩
                      rw [wipe_out' (vs := vs1) fun z => h2 (hv1 n z)]
                      exact (o3 n h2).symm
    · have e : i = ds.length := by omega
      subst e
      refine .inl ⟨(wk _ F H' s0 S.fh).2 (List.getElem?_eq_none_iff.mpr (Nat.le_refl _)), ?_⟩
      refine lc_end (g := g) (tt := tt) (te := te) (ds := ds) hvs hG S1 ⟨Nat.le_refl _, ρ, F, acc, done, rest, S, s0, hFD, rd, et, ?_⟩ w1
      rw [List.drop_length] at ll ⊢
      exact ll
theorem px_lc2 {bb bb1 : Bool} {N : List Str} {sc : Scope} {fn : Str → Bool} {elt iter iter1 : Expr} {ifs ifs1 : List Expr} {scope : Scope} {own : List (Str × Nat)} {vs' vs1 : List Nat} {it it1 : DenL} {g g1 : PyData → Env → Option Env} {tt tt1 : DenB} {te : Den} (c : CF X N sc fn) (hi : PIX bb X W M tg iter it) (ok : blkC N sc scope own = true)
    (hvs : ∀ i ∈ own.map (·.2), M[i]? = some .sh) (hsub : ∀ i ∈ vs', i ∈ own.map (·.2)) (hv1 : ∀ i ∈ vs1, i ∈ own.map (·.2)) (hg : ∀ b, PGX bb (bX X scope b) M tg vs' g) (ht : ∀ b, PXTs (bX X scope b) W0 M ifs tt)
    (hi1 : ∀ b, PIX bb1 (bX X scope b) W0 M tg1 iter1 it1) (hg1 : ∀ b, PGX bb1 (bX X scope b) M tg1 vs1 g1) (ht1 : ∀ b, PXTs (bX X scope b) W0 M ifs1 tt1) (he : ∀ b, PX (bX X scope b) W0 M .sh elt te)
    (hs : ∀ x, foldedSetIterable iter X.env x = pure x := by intro _; rfl) (hs1 : ∀ env x, foldedSetIterable iter1 env x = pure x := by intro _ _; rfl) : PX X W M .fr (.ListComp elt [⟨tg, iter, ifs, 0⟩, ⟨tg1, iter1, ifs1, 0⟩] scope pos) (dLC2 it g tt it1 g1 tt1 te (own.map (·.2)) vs1) := by
  obtain ⟨wi, pi, qi⟩ := hi
  obtain ⟨tgt, pg, qg⟩ := PGX.all hg
  obtain ⟨ttt, pt, qt⟩ := PXTs.all ht
  obtain ⟨wi1, pi1, qi1⟩ := PIX.all hi1
  obtain ⟨tgt1, pg1, qg1⟩ := PGX.all hg1
  obtain ⟨ttt1, pt1, qt1⟩ := PXTs.all ht1
  obtain ⟨tet, pe, qe⟩ := PX.all he
  refine ⟨_, pe_lc2 (vs1 := vs1) c.calm c.ndX pi (c.hN' ok) hv1 (fun s H C cl fp => pg ⟨s, H, C, cl, fp⟩) (fun s H C cl fp => pt ⟨s, H, C, cl, fp⟩) (fun s H C cl fp => pi1 ⟨s, H, C, cl, fp⟩) (fun s H C cl fp => pg1 ⟨s, H, C, cl, fp⟩) (fun s H C cl fp => pt1 ⟨s, H, C, cl, fp⟩) (fun s H C cl fp => pe ⟨s, H, C, cl, fp⟩) hs hs1, fun G F ρ σ H Q S w => ?_⟩
  exact lc2_read hvs hv1 qi (fun v σ H Q ⟨G, F, ρ, d, ρ', S, r, e, k⟩ => qg v σ H Q fun b => ⟨G, F, ρ, d, ρ', S, r, e, fun σ' S' k' o' => k σ' S' k' fun i hn => o' i fun z => hn (hsub i z)⟩)
    (fun σ H Q ⟨G, F, ρ, S, p⟩ => qt σ H Q fun b => ⟨G, F, ρ, S, p⟩) (fun σ H R ⟨G, F, ρ, S, p⟩ => qi1 σ H R fun b => ⟨G, F, ρ, S, p⟩) (fun v σ H Q ⟨G, F, ρ, d, ρ', S, r, e, k⟩ => qg1 v σ H Q fun b => ⟨G, F, ρ, d, ρ', S, r, e, k⟩)
    (fun σ H Q ⟨G, F, ρ, S, p⟩ => qt1 σ H Q fun b => ⟨G, F, ρ, S, p⟩) (fun σ H Q ⟨G, F, ρ, S, p⟩ => qe σ H Q fun b => ⟨G, F, ρ, S, p⟩) S w
theorem psx_setLC2 {bb bb1 : Bool} {N : List Str} {sc : Scope} {fn : Str → Bool} {i : Nat} {y : Str} {py spos : Pos} {elt iter iter1 : Expr} {ifs ifs1 : List Expr} {scope : Scope} {own : List (Str × Nat)} {vs' vs1 : List Nat} {it it1 : DenL} {g g1 : PyData → Env → Option Env} {tt tt1 : DenB} {te : Den} (c : CF X N sc fn) (hy : X.N[i]? = some y) (hyl : X.env.scope.names.lookup y = some .local)
    (hsw : swapsWith (.ListComp elt [⟨tg, iter, ifs, 0⟩, ⟨tg1, iter1, ifs1, 0⟩] scope pos) (some (.Name y py)) spos.line X.env = pure true) (hi : PIX bb X W M tg iter it) (ok : blkC N sc scope own = true)
    (hvs : ∀ i ∈ own.map (·.2), M[i]? = some .sh) (hsub : ∀ i ∈ vs', i ∈ own.map (·.2)) (hv1 : ∀ i ∈ vs1, i ∈ own.map (·.2)) (hg : ∀ b, PGX bb (bX X scope b) M tg vs' g) (ht : ∀ b, PXTs (bX X scope b) W0 M ifs tt)
    (hi1 : ∀ b, PIX bb1 (bX X scope b) W0 M tg1 iter1 it1) (hg1 : ∀ b, PGX bb1 (bX X scope b) M tg1 vs1 g1) (ht1 : ∀ b, PXTs (bX X scope b) W0 M ifs1 tt1) (he : ∀ b, PX (bX X scope b) W0 M .sh elt te) {fs : Den → DenS}
    (hend : ∀ {t : TE} {f : Den}, (∀ G F ρ σ H Q, SR (kt X) M G F ρ σ H → Post X W M G F σ (f ρ) (fun d ρ' F' H' => ∀ v, ResK .fr (kt X) M G F' H' ρ' σ v d → Q v H') → t σ H Q) → ∀ G F ρ σ H D, SR (kt X) M G F ρ σ H → PostS X W M k G F σ (fs f ρ) D → tAsg t (gName i) D σ H)
    (hs : ∀ x, foldedSetIterable iter X.env x = pure x := by intro _; rfl) (hs1 : ∀ env x, foldedSetIterable iter1 env x = pure x := by intro _ _; rfl) : PSX X W M k (.Assign [.Name y py] (.ListComp elt [⟨tg, iter, ifs, 0⟩, ⟨tg1, iter1, ifs1, 0⟩] scope pos) spos) (fs (dLC2 it g tt it1 g1 tt1 te (own.map (·.2)) vs1)) := by
  obtain ⟨wi, pi, qi⟩ := hi
  obtain ⟨tgt, pg, qg⟩ := PGX.all hg
  obtain ⟨ttt, pt, qt⟩ := PXTs.all ht
  obtain ⟨wi1, pi1, qi1⟩ := PIX.all hi1
  obtain ⟨tgt1, pg1, qg1⟩ := PGX.all hg1
  obtain ⟨ttt1, pt1, qt1⟩ := PXTs.all ht1
  obtain ⟨tet, pe, qe⟩ := PX.all he
  refine ⟨_, ps_setLc2 (vs1 := vs1) c.calm c.ndX hy hyl hsw pi (c.hN' ok) hv1 (fun s H C cl fp => pg ⟨s, H, C, cl, fp⟩) (fun s H C cl fp => pt ⟨s, H, C, cl, fp⟩) (fun s H C cl fp => pi1 ⟨s, H, C, cl, fp⟩) (fun s H C cl fp => pg1 ⟨s, H, C, cl, fp⟩) (fun s H C cl fp => pt1 ⟨s, H, C, cl, fp⟩) (fun s H C cl fp => pe ⟨s, H, C, cl, fp⟩) hs hs1, hend fun G F ρ σ H Q S w => ?_⟩
  exact lc2_read hvs hv1 qi (fun v σ H Q ⟨G, F, ρ, d, ρ', S, r, e, k⟩ => qg v σ H Q fun b => ⟨G, F, ρ, d, ρ', S, r, e, fun σ' S' k' o' => k σ' S' k' fun i hn => o' i fun z => hn (hsub i z)⟩)
    (fun σ H Q ⟨G, F, ρ, S, p⟩ => qt σ H Q fun b => ⟨G, F, ρ, S, p⟩) (fun σ H R ⟨G, F, ρ, S, p⟩ => qi1 σ H R fun b => ⟨G, F, ρ, S, p⟩) (fun v σ H Q ⟨G, F, ρ, d, ρ', S, r, e, k⟩ => qg1 v σ H Q fun b => ⟨G, F, ρ, d, ρ', S, r, e, k⟩)
    (fun σ H Q ⟨G, F, ρ, S, p⟩ => qt1 σ H Q fun b => ⟨G, F, ρ, S, p⟩) (fun σ H Q ⟨G, F, ρ, S, p⟩ => qe σ H Q fun b => ⟨G, F, ρ, S, p⟩) S w
end
end PD

set_option Elab.async false
set_option linter.all false
set_option maxRecDepth 100000
set_option maxHeartbeats 2000000
set_option autoImplicit false
namespace PD
open PySem L2 PySem.Spec

/-! ### enumerate of a tuple -/
open AutoSeq1 (wpAny_loadPart') in
theorem enum_newT (l : Addr) (items : Array Value) (n : Nat) (dct : Option Addr) (sl : Array (Option Value)) :
    Meets (Builtin.«enumerate.__new__» ⟨[.type "enumerate", .ref l], []⟩) (fun _ R s => s.heap.get? l = some { cls := .type "tuple", dict := dct, data := .seq items n, slots := sl } ∧
      R (.ok (.ret (.ref (s.heap.push { cls := .type "tuple_iterator", data := .fields #[.ref l, .int 0 0] }).objs.size)))
        { s with heap := (s.heap.push { cls := .type "tuple_iterator", data := .fields #[.ref l, .int 0 0] }).push { cls := .type "enumerate", data := .fields #[.none, .bool false, .ref s.heap.objs.size, rawInt 0, .none, .none] } }) :=
  .of_wp fun prog w A R s h => by
    obtain ⟨hp, g, d, tk, os⟩ := s; obtain ⟨hl, h⟩ := h
    have hsub := sub_enumerate
    have hL : Heap.IsTuple (Shared.heap ⟨hp, g, d, tk, os⟩) l items := ⟨_, hl, rfl, n, rfl⟩
    wp_walk using wpAny_loadPart' hl
    refine wpAny_stack_any fun st => wpAny_pure ?_
    split
    · rename_i c _ _ _ _ _
      cases (c == Value.type "enumerate")
      · wp_walk using wpAny_loadPart' hl, wpAny_pyIter_tuple hL
        exact ⟨_, rfl, h⟩
      · wp_walk using wpAny_loadPart' hl, wpAny_pyIter_tuple hL
        exact ⟨_, rfl, h⟩
    · wp_walk using wpAny_loadPart' hl, wpAny_pyIter_tuple hL
      exact ⟨_, rfl, h⟩
theorem call_enumT {prog : Program} {w : World} {A : Around} {E : Value → Shared → Prop} {s : Shared} {l : Addr} {items : Array Value} {Q : Value → Shared → Prop} (hL : s.heap.IsTuple l items)
    (h : ∀ h', IsEnum h' (s.heap.objs.size + 1) s.heap.objs.size 0 .none → h'.IsTupleIter s.heap.objs.size l 0 → (∀ b o, s.heap.get? b = some o → h'.get? b = some o) → Q (.ref (s.heap.objs.size + 1)) { s with heap := h' }) :
    wpAny (model prog w) A (call (.type "enumerate") [.ref l]) Q E s := by
  obtain ⟨⟨c, dct, dt, sl⟩, hl, hc, n, hd⟩ := hL
  replace hc : c = .type "tuple" := hc
  replace hd : dt = .seq items n := hd
  subst hc hd
  refine callType_new F.called_enumerate (by decide) (F.typeCall_enumerate_1 _) (F.newCall_enumerate_1 _) (fun obj => F.args_object_init_2 obj _) F.entry_enumerate_new (enum_newT l items n dct sl) ⟨hl, ?_⟩
  have hz : (s.heap.push { cls := .type "tuple_iterator", data := .fields #[.ref l, .int 0 0] }).objs.size = s.heap.objs.size + 1 := Heap.size_push ..
  show _ ∧ _
  rw [hz]
  have he : IsEnum ((s.heap.push { cls := .type "tuple_iterator", data := .fields #[.ref l, .int 0 0] }).push
      { cls := .type "enumerate", data := .fields #[.none, .bool false, .ref s.heap.objs.size, rawInt 0, .none, .none] }) (s.heap.objs.size + 1) s.heap.objs.size 0 .none := by
    have := Heap.get?_push_size (s.heap.push { cls := .type "tuple_iterator", data := .fields #[.ref l, .int 0 0] }) (o := { cls := .type "enumerate", data := .fields #[.none, .bool false, .ref s.heap.objs.size, rawInt 0, .none, .none] }) rfl
    rw [hz] at this; exact this
  exact ⟨⟨_, he, rfl⟩, h _ he ⟨_, Heap.get?_push_of_some _ (Heap.get?_push_size _ rfl), rfl, rfl⟩ fun b o x => Heap.get?_push_of_some _ (Heap.get?_push_of_some _ x)⟩
/-- the tuple at a, each item in a new pair -/
def IteT (K : PySem.W.Frag) (a : Addr) (n : Nat) : It :=
  ⟨fun i H => ∃ (xs : List V) (x : V), SqT K H a xs ∧ xs.length = n ∧ xs[i]? = some x, fun i H v H' => ∃ T x, v = .ref T ∧ H T = none ∧ H' = upd H T (.tup [.int (i : Nat), x]) ∧ ∀ xs, SqT K H a xs → xs[i]? = some x, fun i H => ∃ xs : List V, SqT K H a xs ∧ xs.length = n ∧ n ≤ i⟩
theorem turn_enumT {P : Program} {w : World} {K : PySem.W.Frag} {elts : List Expr} {kk : Nat} {tpos : Pos} {a e it : Addr} {n : Nat} (h1 : a ≠ it) (h2 : e ≠ a) (h3 : e ≠ it) :
    Turn P w K (.Tuple elts kk tpos) (IteT K a n) [e, it] e (fun i h => (∃ old, IsEnum h e it ((i : Nat) : Int) old) ∧ h.IsTupleIter it a i ∧ i ≤ n) where
  mem := by simp
  obj := fun i h st b hb => by
    obtain ⟨⟨old, he⟩, ⟨o, ho, hc, hd⟩, _⟩ := st
    rcases (show b = e ∨ b = it by simpa using hb) with z | z
    · rw [z]; exact ⟨_, he, fun v q => nomatch q⟩
    · rw [z]; exact ⟨o, ho, fun v q => by rw [hd] at q; cases q⟩
  keep := fun i h h' st k => let ⟨⟨old, he⟩, hi, hn⟩ := st; ⟨⟨old, k e (by simp) _ he⟩, hi.at fun o q => k it (by simp) o q, hn⟩
  item := by
    intro X hP hw hK hc i pins s σ H E I hf st hg
    subst hP hw hK
    obtain ⟨⟨old, he⟩, hit, hle⟩ := st
    obtain ⟨xs, x, hq, hxn, hx⟩ := hg
    obtain ⟨its, rv, p, hz⟩ := I.tuple hq
    obtain ⟨u, hu, ru⟩ := rv.get hx
    have hel : e < s.heap.objs.size := Heap.lt_size he
    have hil : it < s.heap.objs.size := let ⟨_, q, _⟩ := hit; Heap.lt_size q
    have hlt : i < its.toArray.size := by rw [List.size_toArray]; exact (List.getElem?_eq_some_iff.mp hu).1
    refine wpAny_pyNext_enum_itemD (Draws.tuple (A := X.A.in1) (I.ok.hd hc) it a h1 its.toArray) he ⟨hit, p⟩ hlt h3 (by simp [h2, h3]) fun x' h' tk hx' ho hst' hT hsz hk => ?_
    obtain rfl : x' = u := by
      have e1 : its[i]? = some x' := by simpa using hx'
      rw [hu] at e1; exact (Option.some.inj e1).symm
    refine ⟨_, rfl, wpAny_letOwnedTupleGo_enum (s := { s with heap := h', toks := tk + 1 }) ho fun h'' he' sb => ?_⟩
    have hT2 : h''.get? s.heap.objs.size = some { cls := .type "tuple", data := .seq #[.int i tk, x'] } := (sb.2 _ (Nat.ne_of_gt hel)).trans hT
    have new : ObjOk X.prog X.w (upd H s.heap.objs.size (.tup [.int (i : Nat), x])) h'' s.heap.objs.size (.tup [.int (i : Nat), x]) :=
      ⟨by show 2 ≤ sizeLine; decide, [.int i tk, x'], .cons ⟨_, rfl⟩ (.cons ru .nil), ⟨_, hT2, rfl, _, rfl⟩⟩
    have I1 : Inv X pins σ (upd H s.heap.objs.size (.tup [.int (i : Nat), x])) { s with heap := h'', toks := tk + 1 } :=
      I.turnedNew (ch := [e, it]) (fun b ob hb q => (sb.2 b (fun z => hb (by simp [z]))).trans (hk b ob (fun z => hb (by simp [z])) (fun z => hb (by simp [z])) q)) hf (Nat.le_refl _) new
    refine ⟨.ref s.heap.objs.size, _, I1, rfl, ⟨_, x, rfl, I.hok.fresh (Nat.le_refl _), rfl, fun ys hy => by rw [I.tuple_inj hy hq]; exact hx⟩, ⟨⟨x', ?_⟩, hst'.1.at fun o q => (sb.2 it (Ne.symm h3)).trans q, by have := (List.getElem?_eq_some_iff.mp hx).1; omega⟩, fun b hb => ?_⟩
    · rw [show ((i + 1 : Nat) : Int) = (i : Int) + 1 by omega]; exact he'
    · have hb' : b < s.heap.objs.size := by
        rcases (show b = e ∨ b = it by simpa using hb) with z | z
        · rw [z]; exact hel
        · rw [z]; exact hil
      rw [upd_ne (Nat.ne_of_lt hb')]
      exact (hf b hb).1
  done := by
    intro X hP hw hK hc i pins s σ H E I hf st hg
    subst hP hw hK
    obtain ⟨⟨old, he⟩, hit, hle⟩ := st
    obtain ⟨xs, hq, hxn, hx⟩ := hg
    obtain ⟨its, rv, p, hz⟩ := I.tuple hq
    obtain ⟨f0, f1, f2, f3, f4, f5⟩ := hf it (by simp)
    have hl : i = its.toArray.size := by have := rv.length; rw [List.size_toArray]; omega
    subst hl
    exact wpAny_pyNext_enum_endD (Draws.tuple (A := X.A.in1) (I.ok.hd hc) it a h1 its.toArray) he ⟨hit, p⟩ fun h' eb => ⟨rfl, I.turned (t' := s.toks) (fun b o hb q => eb b o hb q) f0 f1 f3 f4 f5⟩
  self := fun A i s Q E st h => let ⟨⟨_, he⟩, _⟩ := st; wpAny_pyIter_enum he h
def iEnumA (K : PySem.W.Frag) (ta : TA) : TI := fun σ H R => ta σ H fun vs H1 => ∃ a xs, vs = [.ref a] ∧ ((SqL K H1 a xs ∧ R (Ite K a) H1) ∨ (SqT K H1 a xs ∧ R (IteT K a xs.length) H1))
section
variable {X : Cx} {W : WX} {M : List Md} {k : Kd} {pos : Pos}
theorem pi_enumA {e : Expr} {ta : TA} {p tpos : Pos} {elts : List Expr} {kk : Nat} (hg : Gl X "enumerate") (hm : X.mg "enumerate" = none) (ha : PA X [e] ta) (hs : starEach [e] X.env = [(false, eval e X.env)] := by rfl) :
    PI X (.Tuple elts kk tpos) (.Call (.Name "enumerate" p) [e] [] pos) (iEnumA X.K ta) := by
  refine ⟨fun pins s σ H R I h => ?_⟩
  refine PyProof.Rows.Call_ (ld_blt I hg hm PyProof.Rows.boot_enumerate (PyProof.Rows.callWith_type1 (thn (ha.run pos pins s σ H _ I h) fun us s1 ⟨vs, H1, I1, r1, q1⟩ => ?_) hs rfl))
  obtain ⟨a, xs, ex, q⟩ := q1
  subst ex
  cases r1 with
  | cons r rr =>
    cases rr
    cases r
    rcases q with ⟨hq, q⟩ | ⟨hq, q⟩
    · obtain ⟨its, rv, p', hz⟩ := I1.list hq
      refine call_enumerate_list p'.isList fun h' he hit hsz hk => wpAny_pyIter_enum he ?_
      have I2 : Inv X pins σ H1 { s1 with heap := h' } := I1.kept (t' := s1.toks) hk
      refine ⟨s1.heap.objs.size + 1, [s1.heap.objs.size + 1, s1.heap.objs.size], _, _, H1, rfl, I2, turn_enum a (s1.heap.objs.size + 1) s1.heap.objs.size, ⟨⟨.none, he⟩, hit, Nat.succ_ne_self _⟩, fun b hb => ?_, q⟩
      have hle : s1.heap.objs.size ≤ b := by
        rcases (show b = s1.heap.objs.size + 1 ∨ b = s1.heap.objs.size by simpa using hb) with z | z
        · rw [z]; exact Nat.le_succ _
        · rw [z]; exact Nat.le_refl _
      exact I1.fpOk hle (I1.hok.fresh hle)
    · obtain ⟨its, rv, p', hz⟩ := I1.tuple hq
      have hal : a < s1.heap.objs.size := let ⟨_, e, _⟩ := p'; Heap.lt_size e
      refine call_enumT p' fun h' he hit hk => wpAny_pyIter_enum he ?_
      have I2 : Inv X pins σ H1 { s1 with heap := h' } := I1.kept (t' := s1.toks) hk
      refine ⟨s1.heap.objs.size + 1, [s1.heap.objs.size + 1, s1.heap.objs.size], _, _, H1, rfl, I2, turn_enumT (a := a) (e := s1.heap.objs.size + 1) (it := s1.heap.objs.size) (n := xs.length) (Nat.ne_of_lt hal) (Nat.ne_of_gt (Nat.lt_succ_of_lt hal)) (Nat.succ_ne_self _), ⟨⟨.none, he⟩, hit, Nat.zero_le _⟩, fun b hb => ?_, q⟩
      have hle : s1.heap.objs.size ≤ b := by
        rcases (show b = s1.heap.objs.size + 1 ∨ b = s1.heap.objs.size by simpa using hb) with z | z
        · rw [z]; exact Nat.le_succ _
        · rw [z]; exact Nat.le_refl _
      exact I1.fpOk hle (I1.hok.fresh hle)
theorem enum_get {ds : List PyData} {i : Nat} {d : PyData} (h : (enumD ds)[i]? = some d) : ∃ x, ds[i]? = some x ∧ d = .tuple [.int (i : Int), x] := by
  unfold enumD at h
  rw [List.getElem?_map] at h
  cases q : (List.range ds.length)[i]? with
  | none => rw [q] at h; cases h
  | some j =>
    rw [q] at h; cases h
    have hi := (List.getElem?_eq_some_iff.mp q).1
    have hj := (List.getElem?_eq_some_iff.mp q).2
    rw [List.getElem_range] at hj
    subst hj
    have hi' : i < ds.length := by simpa using hi
    exact ⟨ds[i], List.getElem?_eq_getElem hi', by show PyData.tuple [.int (i : Int), ds.getD i .none] = _; rw [List.getD_eq_getElem?_getD, List.getElem?_eq_getElem hi']; rfl⟩
theorem enum_end {ds : List PyData} {i : Nat} (h : (enumD ds)[i]? = none) : ds.length ≤ i := by
  rw [List.getElem?_eq_none_iff] at h
  simpa [enumD] using h
theorem wk_enumL {T : Kt} {F : Hp} {a : Addr} {xs : List V} {ds : List PyData} (h : Rd F a (.lst xs)) (r : RepAll T F ds xs) : Wk false T (Ite T.K a) (enumD ds) F := by
  intro i F1 H1 s1 s2
  have hq : SqL T.K H1 a xs := .inl (sub_r (s1.tr s2) h)
  refine ⟨fun d hd => ?_, fun hn => ⟨xs, hq, by rw [← r.length]; exact enum_end hn⟩⟩
  obtain ⟨x, hx, rfl⟩ := enum_get hd
  obtain ⟨v, hv, rv⟩ := r.get hx
  refine ⟨⟨xs, v, hq, hv⟩, fun u H2 y => ?_⟩
  obtain ⟨p, v', rfl, hp, rfl, h1⟩ := y
  have e1 := h1 xs hq
  rw [hv] at e1; cases e1
  exact pair_new hp s2 (.int _) (rv.mono s1)
theorem wk_enumT {T : Kt} {F : Hp} {a : Addr} {xs : List V} {ds : List PyData} (h : TupC T.K F a xs) (r : RepAll T F ds xs) : Wk false T (IteT T.K a xs.length) (enumD ds) F := by
  intro i F1 H1 s1 s2
  have hq : SqT T.K H1 a xs := tupC_sq (sub_c (s1.tr s2) h)
  refine ⟨fun d hd => ?_, fun hn => ⟨xs, hq, rfl, by have := enum_end hn; have := r.length; omega⟩⟩
  obtain ⟨x, hx, rfl⟩ := enum_get hd
  obtain ⟨v, hv, rv⟩ := r.get hx
  refine ⟨⟨xs, v, hq, rfl, hv⟩, fun u H2 y => ?_⟩
  obtain ⟨p, v', rfl, hp, rfl, h1⟩ := y
  have e1 := h1 xs hq
  rw [hv] at e1; cases e1
  exact pair_new hp s2 (.int _) (rv.mono s1)
def dEnum (f : Den) : DenL := fun ρ => (f ρ).bind fun d ρ => match d with
  | .list ds => .ok (enumD ds) ρ
  | .tuple ds => .ok (enumD ds) ρ
  | _ => .bad
theorem pix_enum {e : Expr} {f : Den} {p tpos : Pos} {elts : List Expr} {kk : Nat} (hg : Gl X "enumerate") (hm : X.mg "enumerate" = none) (h : PX X W M .sh e f) (hst : starEach [e] X.env = (false, eval e X.env) :: starEach [] X.env := by rfl) (hs : starEach [e] X.env = [(false, eval e X.env)] := by rfl) :
    PIX false X W M (.Tuple elts kk tpos) (.Call (.Name "enumerate" p) [e] [] pos) (dEnum f) := by
  obtain ⟨t, pt, q⟩ := h
  refine ⟨_, pi_enumA hg hm (pa_cons pt pa_nil hst) hs, fun G F ρ σ H R S w => q _ _ _ _ _ _ S ((Post.bind w).imp fun d ρ1 F1 H1 _ S1 w1 v r => ?_)⟩
  split at w1
  · cases r with | lst ha ra => exact ⟨_, _, rfl, .inl ⟨.inl (sub_r S1.fh ha), w1.now S1 _ (wk_enumL (T := kt X) ha ra)⟩⟩
  · cases r with | tup ha ra => exact ⟨_, _, rfl, .inr ⟨tupC_sq (sub_c S1.fh ha), w1.now S1 _ (wk_enumT (T := kt X) ha ra)⟩⟩
  · exact w1.elim
end
end PD

set_option Elab.async false
set_option linter.all false
set_option maxRecDepth 100000
set_option maxHeartbeats 2000000
set_option autoImplicit false
namespace PD
open PySem L2 PySem.Spec

section
variable {X : Cx} {W : WX} {M : List Md} {k : Kd} {pos : Pos} {N : List Str} {sc : Scope} {fn : Str → Bool}
/-! ### xs.index(d) -/
theorem plain_list {ds : List PyData} (h : PyData.plain (.list ds) = true) : PyData.plainAll ds = true := by simpa [PyData.plain] using h
theorem RepAll.rds {pins : List (Addr × Obj)} {σ : St} {H : Hp} {s : Shared} (I : Inv X pins σ H s) {ds : List PyData} {vs : List V} {us : List Value} (r : RepAll (kt X) H ds vs) (p : PyData.plainAll ds = true) (ru : Vals vs us) : ∃ as, ReadsAll s.heap us ds as :=
  Dp.readsAll I ds vs us (RepAll.dp (T := kt X) r p) ru
def okIx (ds : List PyData) (d : PyData) : Bool := PyData.plainAll ds && d.plain && decide (d.depth ≤ 64)
def rIndexP (T : Kt) : V → List V → Hp → VK → Prop := fun x xs H Q => ∃ (a : Addr) (ys : List V) (y : V) (d : PyData) (ds : List PyData) (j : Nat), x = V.ref a ∧ xs = [y] ∧ Rd H a (.lst ys) ∧ RepAll T H ds ys ∧ Rep T H d y ∧ okIx ds d = true ∧ SeqAt.dataPlace ds d = some j ∧ Q (.int (j : Nat)) H
theorem mt_indexP (hu : X.A.units + 100 < cLine) : MtR X "list.index" (rIndexP (kt X)) := by
  intro pins s σ H x xs v us Q I rx rxs h
  obtain ⟨a, ys, y, d, ds, j, rfl, rfl, hl, ry, rd, ok, hj, q⟩ := h
  cases rx
  obtain ⟨uy, rfl, ru⟩ := rxs.one
  unfold okIx at ok
  simp only [Bool.and_eq_true, decide_eq_true_eq] at ok
  obtain ⟨⟨p1, p2⟩, p3⟩ := ok
  obtain ⟨bs, r1⟩ := Rep.rd I rd p2 ru
  obtain ⟨z, its, n, rv, ho⟩ := hl.ok I.hok
  obtain ⟨as, rs⟩ := RepAll.rds I ry p1 rv
  have rs' : ReadsAll s.heap its.toArray.toList ds as := rs
  obtain ⟨hjv, hit, hno⟩ := SeqAt.hit_at rs' p1 hj
  have hs := sizeLine_eq
  have hle : its.toArray.size ≤ sizeLine := by rw [List.size_toArray, ← rv.length]; exact z
  refine call_meets PySem.F.slot_list_index ⟨_, ho, rfl⟩ PySem.F.entry_list_index (PySem.F.args_list_index_2 _ _) (SeqAt.list_indexAt a its.toArray n none #[] uy (fun u => PyData.eqv (SeqAt.readOf s.heap u) d) j hjv (by omega) hit hno)
    ⟨ho, SeqAt.items_plain rs' r1 p1 p2 (by have := Nat.min_le_right (PyData.depthAll ds) d.depth; omega), .int (j : Nat), H, I.tok _, ⟨_, rfl⟩, q⟩
def dIdx (fo fe : Den) : Den := fun ρ => (fo ρ).bind fun o ρ => match o with
  | .list ds => (fe ρ).bind fun d ρ => if okIx ds d = true then (match SeqAt.dataPlace ds d with
    | some j => .ok (.int (j : Int)) ρ
    | none => .bad) else .bad
  | _ => .bad
theorem px_idx {o e : Expr} {fo fe : Den} {ap : Pos} (hu : X.A.units + 100 < cLine) (ho : PX X W M .sh o fo) (he : PX X W M .sh e fe) (hbase : attributeBase o "index" X.env (eval o X.env) = eval o X.env := by rfl)
    (hfew : ((backTo pos (starEach [e] X.env)).all (fun x => !x.1) && (backToKw pos (keywordEach [] X.env)).all (fun x => x.1.isSome) && decide ([e].length + ([] : List Keyword).length + (if ([] : List Keyword).isEmpty then 0 else 1) < 30)) = true := by rfl)
    (hline : (ap.endLine == pos.line) = true := by rfl) (hs : starEach [e] X.env = (false, eval e X.env) :: starEach [] X.env := by rfl) (hplain : (backTo pos (starEach [] X.env)).any (·.1) = false := by rfl) : PX X W M k (.Call (.Attribute o "index" ap) [e] [] pos) (dIdx fo fe) := by
  obtain ⟨t, p, q⟩ := ho
  obtain ⟨u, p', q'⟩ := he
  refine ⟨_, pe_bm PySem.F.plainAttrs_list PySem.F.slot_list_index PySem.F.type_list_index (mt_indexP hu) p (pa_cons p' pa_nil hs) hbase hfew hline hs hplain, fun G F ρ σ H Q S w => q _ _ _ _ _ _ S ((Post.bind w).imp fun o ρ1 F1 H1 _ S1 w1 v r => ?_)⟩
  split at w1
  · cases r with
    | lst ha ra =>
      refine ⟨.inl ⟨rfl, _, .inl (sub_r S1.fh ha)⟩, ?_⟩
      refine q' _ _ _ _ _ _ S1 ((Post.bind w1).imp fun d ρ2 F2 H2 s2 S2 w2 y ry => ?_)
      split at w2
      · rename_i hok
        split at w2
        · rename_i j hj
          exact ⟨_, _, y, d, _, j, rfl, rfl, sub_r (s2.tr S2.fh) ha, ra.mono (s2.tr S2.fh), Rep.mono S2.fh ry, hok, hj, w2.now S2 _ (ResK.sc (.int _) rfl)⟩
        · exact w2.elim
      · exact w2.elim
  · exact w1.elim

/-! ### xs[lo:hi:step] -/
def pick {α : Type} (xs : List α) (lo hi st : Option Int) : List α := (sliceRange (sliceBounds lo hi st xs.length).1 (sliceBounds lo hi st xs.length).2.1 (sliceBounds lo hi st xs.length).2.2).filterMap fun i => xs[i]?
theorem pick_vals {xs : List V} {us : List Value} (r : Vals xs us) (lo hi st : Option Int) : Vals (pick xs lo hi st) (slicePick us.toArray lo hi st).toList := by
  unfold pick slicePick
  rw [r.length, List.size_toArray]
  generalize sliceRange _ _ _ = is
  induction is with
  | nil => exact .nil
  | cons i is ih =>
    simp only [List.filterMap_cons, List.getElem?_toArray] at ih ⊢
    cases q : xs[i]? with
    | none =>
      have : us[i]? = none := by rw [List.getElem?_eq_none_iff] at q ⊢; rw [← r.length]; exact q
      rw [this]; exact ih
    | some x =>
      obtain ⟨u, hu, ru⟩ := r.get q
      rw [hu]
      exact .cons ru ih
theorem RepAll.pick {T : Kt} {H : Hp} {ds : List PyData} {xs : List V} (r : RepAll T H ds xs) (lo hi st : Option Int) : RepAll T H (PD.pick ds lo hi st) (PD.pick xs lo hi st) := by
  unfold PD.pick
  rw [r.length]
  generalize sliceRange _ _ _ = is
  induction is with
  | nil => exact .nil
  | cons i is ih =>
    simp only [List.filterMap_cons]
    cases q : ds[i]? with
    | none =>
      have : xs[i]? = none := by rw [List.getElem?_eq_none_iff] at q ⊢; rw [← r.length]; exact q
      rw [this]; exact ih
    | some d =>
      obtain ⟨v, hv, rv⟩ := r.get q
      rw [hv]
      exact .cons rv ih
def tSl3 (te : TE) (tl th tt : TO) : TE := fun σ H Q => te σ H fun x H1 => tl σ H1 fun l H2 => th σ H2 fun u H3 => tt σ H3 fun t H4 => ∃ a xs, x = .ref a ∧ Rd H4 a (.lst xs) ∧ t ≠ some 0 ∧ ∀ p, H4 p = none → Q (.ref p) (upd H4 p (.lst (pick xs l u t)))
theorem pe_slice3 {e : Expr} {lo hi : Option Expr} {st : Expr} {p2 : Pos} {te : TE} {tl th tt : TO} (he : PE X e te) (hl : PO X lo tl) (hh : PO X hi th) (ht : PO X (some st) tt) : PE X (.Subscript e (.Slice lo hi (some st) p2) pos) (tSl3 te tl th tt) := by
  refine ⟨fun pins s σ H Q I h => ?_⟩
  refine PyProof.Rows.Subscript_ (thn (he.run pins s σ H _ I h) fun v s1 ⟨x, H1, I1, r1, q1⟩ => ?_)
  refine wpAny_Slice (thn (hl.run pins s1 σ H1 _ I1 q1) fun vl s2 ⟨l, H2, I2, pl, q2⟩ => thn (hh.run pins s2 σ H2 _ I2 q2) fun vu s3 ⟨u, H3, I3, pu, q3⟩ => thn (ht.run pins s3 σ H3 _ I3 q3) fun vt s4 ⟨t, H4, I4, pt, a, xs, ex, hx, h0, q⟩ => ?_)
  subst ex
  cases r1
  have I5 : Inv X pins σ H4 { s4 with heap := s4.heap.push { cls := .type "slice", data := .fields #[vl, vu, vt] } } := I4.kept (t' := s4.toks) fun b ob q => Heap.get?_push_of_some _ q
  obtain ⟨z, its, n, rv, ho⟩ := hx.ok I5.hok
  have hl : (s4.heap.push { cls := .type "slice", data := .fields #[vl, vu, vt] }).IsList a its.toArray := ⟨_, ho, rfl, n, rfl⟩
  have hsz : its.toArray.size ≤ sizeLine := by rw [List.size_toArray, ← rv.length]; exact z
  show wpAny (model X.prog X.w) X.A (PyProof.Rows.subscriptTail e (.Slice lo hi (some st) p2) (.ref a) (.ref s4.heap.objs.size)) (EP X pins σ Q) X.xe { s4 with heap := s4.heap.push { cls := .type "slice", data := .fields #[vl, vu, vt] } }
  refine PyProof.Rows.tail_any (T := "list") (ops := [.ref a, .ref s4.heap.objs.size]) hl.typeIs list_getitem_lookup ?_ (by with_unfolding_all rfl)
  refine wpAny_getItem_list_slice hl (Heap.IsSliceOf.new ..) pl pu pt h0 ?_ hsz
  have hp := pick_vals rv l u t
  have hpl : (pick xs l u t).length ≤ sizeLine := by
    rw [hp.length, Array.length_toList]
    exact Nat.le_trans (slicePick_size_le _ _ _ _) hsz
  exact ⟨.ref _, _, I5.laid (t' := s4.toks) (o := .lst (pick xs l u t)) (fun b ob q => Heap.get?_push_of_some _ q) (Nat.le_refl _) ⟨hpl, _, 0, hp, by rw [Array.toArray_toList]; exact Heap.get?_push_size _ rfl⟩, rfl, q _ (I5.hok.fresh (Nat.le_refl _))⟩
def dSl3 (f : Den) (fl fh ft : DenO) : Den := fun ρ => (f ρ).bind fun a ρ => (fl ρ).bind fun l ρ => (fh ρ).bind fun h ρ => (ft ρ).bind fun t ρ => match a with
  | .list ds => if t = some 0 then .bad else .ok (.list (pick ds l h t)) ρ
  | _ => .bad
theorem px_sl3 {e st : Expr} {lo hi : Option Expr} {p2 : Pos} {f : Den} {fl fh ft : DenO} (h : PX X W M .sh e f) (hl : PXO X W M lo fl) (hh : PXO X W M hi fh) (ht : PXO X W M (some st) ft) : PX X W M .fr (.Subscript e (.Slice lo hi (some st) p2) pos) (dSl3 f fl fh ft) := by
  obtain ⟨t, p, q⟩ := h
  obtain ⟨tl, pl, ql⟩ := hl
  obtain ⟨th, ph, qh⟩ := hh
  obtain ⟨tt, pt, qt⟩ := ht
  refine ⟨_, pe_slice3 p pl ph pt, fun G F ρ σ H Q S w => q _ _ _ _ _ _ S ((Post.bind w).imp fun a ρ1 F1 H1 _ S1 w1 v rv => ?_)⟩
  refine ql _ _ _ _ _ _ S1 ((Post.bind w1).imp fun l ρ2 F2 H2 s2 S2 w2 => ?_)
  refine qh _ _ _ _ _ _ S2 ((Post.bind w2).imp fun u ρ3 F3 H3 s3 S3 w3 => ?_)
  refine qt _ _ _ _ _ _ S3 ((Post.bind w3).imp fun x ρ4 F4 H4 s4 S4 w4 => ?_)
  split at w4
  · split at w4
    · exact w4.elim
    · rename_i h0
      cases rv with
      | lst ha ra =>
        have ss := (s2.tr s3).tr s4
        exact ⟨_, _, rfl, sub_r (ss.tr S4.fh) ha, h0, fun p hp => new_lst S4 ((ra.mono ss).pick l u x) w4 hp⟩
  · exact w4.elim

/-! ### repr -/
def okRp (d : PyData) : Bool := d.plain && d.showable && decide (d.depth ≤ 64) && decide (d.shown.length ≤ sizeLine) && (match d with | .tuple _ => true | .list _ => true | _ => false)
def rRepr (T : Kt) : List V → Hp → VK → Prop := fun xs H Q => ∃ a d, xs = [V.ref a] ∧ Rep T H d (.ref a) ∧ okRp d = true ∧ Q (.str d.shown) H
theorem noDict_plain : ∀ (n : Nat) (d : PyData), sizeOf d ≤ n → d.plain = true → d.hasDict = false := by
  intro n
  induction n with
  | zero => intro d h; cases d <;> simp at h
  | succ n ih =>
    have all : ∀ ds : List PyData, sizeOf ds ≤ n → PyData.plainAll ds = true → PyData.hasDictAll ds = false := by
      intro ds
      induction ds with
      | nil => intro _ _; simp [PyData.hasDictAll]
      | cons d ds ih2 =>
        intro h p
        simp only [PyData.plainAll, Bool.and_eq_true] at p
        simp only [List.cons.sizeOf_spec] at h
        simp only [PyData.hasDictAll, Bool.or_eq_false_iff]
        exact ⟨ih d (by omega) p.1, ih2 (by omega) p.2⟩
    intro d h p
    cases d with
    | list ds => simp only [PyData.hasDict]; exact all ds (by simp at h; omega) (by simpa [PyData.plain] using p)
    | tuple ds => simp only [PyData.hasDict]; exact all ds (by simp at h; omega) (by simpa [PyData.plain] using p)
    | dict kvs => simp [PyData.plain] at p
    | _ => simp [PyData.hasDict]
theorem call_repr (hg : X.A.guards = some []) (hu : X.A.units + 100 < cLine) : CallR X (.builtin "repr") (rRepr (kt X)) := by
  intro pins s σ H xs us Q I r h
  obtain ⟨a, d, rfl, rd, ok, q⟩ := h
  obtain ⟨u, rfl, rx⟩ := vals1 r
  cases rx
  unfold okRp at ok
  simp only [Bool.and_eq_true, decide_eq_true_eq] at ok
  obtain ⟨⟨⟨⟨p1, p2⟩, p3⟩, p4⟩, _⟩ := ok
  obtain ⟨as, ra⟩ := Rep.rd I rd p1 rfl
  exact repr_of_reads' ra p2 (fun z => by rw [noDict_plain _ d (Nat.le_refl _) p1] at z; cases z) hg (by omega) (fun b o e => e) (fun h' u tk hk => ⟨.str d.shown, H, I.kept (t' := tk) hk, ⟨u, rfl⟩, q⟩) p4
def gRepr (d : PyData) : Option PyData := if okRp d = true then some (.str d.shown) else none
theorem cd_repr (hg : X.A.guards = some []) (hu : X.A.units + 100 < cLine) : Cal1 X M k (.builtin "repr") gRepr := by
  refine ⟨_, call_repr hg hu, fun W G F ρ σ H x dx d Q S bx e p => ?_⟩
  unfold gRepr at e
  split at e
  · rename_i hok
    cases e
    have r := bx.rep' S.fh
    have isr : ∃ a, x = .ref a := by
      have hok' := hok
      unfold okRp at hok'
      simp only [Bool.and_eq_true] at hok'
      cases r <;> first | exact ⟨_, rfl⟩ | (exfalso; exact absurd hok'.2 (by simp))
    obtain ⟨a, rfl⟩ := isr
    exact ⟨a, dx, rfl, r, hok, p.now S _ (ResK.sc (.str _) rfl)⟩
  · cases e
theorem bt_repr : bootBuiltins "repr" = some (.builtin "repr") := by decide +kernel
end
end PD

set_option Elab.async false
set_option linter.all false
set_option maxRecDepth 100000
set_option maxHeartbeats 2000000
set_option autoImplicit false
namespace PD
open PySem L2 PySem.Spec

/-! ### len({key for target in source}), keys ints and texts -/
abbrev InsS := Addr → V → Hp → (Hp → Prop) → Prop
abbrev emptyS (w : World) : Obj := { cls := .type "set", dict := none, data := .set #[] 0 (.fresh 0 0 (!w.params.followText "set-order")) }
def InsSAt (Y : Cx) (ins : InsS) : Prop := ∀ (pins : List (Addr × Obj)) (σ : St) (H : Hp) (s : Shared) (E : Value → Shared → Prop) (D : Addr) (y : V) (u : Value) (Q : Hp → Prop), Inv Y pins σ H s → RelV y u → ins D y H Q →
  wpAny (model Y.prog Y.w) Y.A (call (.builtin "set.add") [.ref D, u]) (fun _ s' => ∃ H', Inv Y pins σ H' s' ∧ Q H') E s
def tSg (o0 : Addr → HO) (ins : InsS) (wi : TI) (g : TG) (tt : TT) (tk : TE) (vs : List Nat) : TE := fun σ H Q => wi σ H fun J H1 => ∀ D, H1 D = none → (D == sysModules) = false → ∃ W : Nat → Nat → Hp → Prop, (∃ m, W 0 m (upd H1 D (o0 D))) ∧ ∀ i m H, W i m H →
  (J.stop i H ∧ Q (.ref D) H) ∨ (J.go i H ∧ ∃ Nx : Hp → Prop, (∀ H', Nx H' → ∃ m', m' < m ∧ W (i + 1) m' H') ∧ ∀ x H', J.yld i H x H' → g x (wipe σ vs) H' fun σ2 H2 => wipe σ2 vs = wipe σ vs ∧ tt σ2 H2 fun b H3 =>
    if b = true then tk σ2 H3 fun y H4 => ins D y H4 Nx else Nx H3)
section
variable {X : Cx}
theorem pe_sg {o0 : Addr → HO} {ins : InsS} {kx tg iter : Expr} {ifs : List Expr} {scope : Scope} {own : List (Str × Nat)} {pos : Pos} {wi : TI} {g : TG} {tt : TT} {tk : TE} (hnew : ∀ (H : Hp) (h : Heap), ObjOk X.prog X.w H (h.push (emptyS X.w)) h.objs.size (o0 h.objs.size) ∨ ¬ sysModules < h.objs.size)
    (hins : ∀ (s : Shared) (H : Hp) (ce : PySem.Env) (fp : List Addr), InsSAt (X.blk s H scope ce fp) ins) (hc : X.calm = true) (hN : X.N.Nodup) (hi : PI X tg iter wi) (ok : BlkOk X.N X.env.scope scope own)
    (hg : ∀ (s : Shared) (H : Hp) (C : Addr) (cl : List (Str × Addr)) (fp : List Addr), PG (X.blk s H scope (compEnvC scope cl C X.env) fp) tg g) (ht : ∀ (s : Shared) (H : Hp) (C : Addr) (cl : List (Str × Addr)) (fp : List Addr), PTs (X.blk s H scope (compEnvC scope cl C X.env) fp) ifs tt)
    (hk : ∀ (s : Shared) (H : Hp) (C : Addr) (cl : List (Str × Addr)) (fp : List Addr), PE (X.blk s H scope (compEnvC scope cl C X.env) fp) kx tk)
    (hs : ∀ x, foldedSetIterable iter X.env x = pure x := by intro _; rfl) :
    PE X (.SetComp kx [⟨tg, iter, ifs, 0⟩] scope pos) (tSg o0 ins wi g tt tk (own.map (·.2))) := by
  refine ⟨fun pins s σ H Q I h => ?_⟩
  rw [PpSet.eval_SetComp]
  have hfree : ∀ y ∈ scope.names, y.2 = .free → ∃ c, X.env.cells.lookup y.1 = some c := fun y hy e => (ok.free y hy e).elim (fun z => I.ok.has _ (.inl z)) fun z => I.ok.has _ (.inr z)
  refine wpAny_comprehension_free (use := none) rfl hs (closure_ok hfree) ok.kind (fun y hy e => by rw [ok.uniq y hy, e]) (thn (hi.run pins s σ H _ I h) fun xv s1 hx => thn hx fun itv s2 h2 => ?_)
  obtain ⟨it, fp, tn, J, H2, rfl, I2, T, st2, f2, q⟩ := h2
  refine PpSet.newSet_ok (newEnv_comp ?_)
  generalize hD : s2.heap.objs.size = D
  have hDn : H2 D = none := I2.hok.fresh (Nat.le_of_eq hD)
  have lowD : (D == sysModules) = false := by
    rw [← hD]; exact beq_eq_false_iff_ne.mpr (Ne.symm (Nat.ne_of_lt I2.big))
  obtain ⟨W, ⟨m0, w0⟩, turn⟩ := q D hDn lowD
  generalize hs3 : ({ s2 with heap := s2.heap.push { cls := .type "set", dict := none, data := .set #[] 0 (.fresh 0 0 (!X.w.params.followText "set-order")) } } : Shared) = s3
  have h3 : s3.heap = s2.heap.push (emptyS X.w) := by rw [← hs3]
  have I3 : Inv X pins σ (upd H2 D (o0 D)) s3 := by
    rw [← hs3]
    refine I2.laid (t' := s2.toks) (fun b o e => Heap.get?_push_of_some _ e) (Nat.le_of_eq hD) ?_
    rw [← hD]
    exact (hnew _ s2.heap).resolve_right fun z => z I2.big
  have sz : ∀ b ∈ fp, b < s2.heap.objs.size := fun b hb => let ⟨_, e, _⟩ := T.obj _ _ st2 b hb; Heap.lt_size e
  have f3 : ∀ b ∈ fp, FpOk X pins (upd H2 D (o0 D)) b ∧ b < s3.heap.objs.size := fun b hb => by
    have hlt := sz b hb
    refine ⟨⟨?_, (f2 b hb).2⟩, by rw [h3, Heap.size_push]; exact Nat.lt_succ_of_lt hlt⟩
    rw [upd_ne (by rw [← hD]; exact Nat.ne_of_lt hlt)]
    exact (f2 b hb).1
  have st3 : tn 0 s3.heap := T.keep _ _ _ st2 fun b _ o e => by rw [h3]; exact Heap.get?_push_of_some _ e
  have I4 := block_start I3 ok hN f3
  generalize hcl : cellsFrom (s3.heap.objs.size + 1) scope.names (cloFrom X.env.cells scope.names []) = cl at I4
  have pg := hg s3 (upd H2 D (o0 D)) s3.heap.objs.size cl fp
  have pt := ht s3 (upd H2 D (o0 D)) s3.heap.objs.size cl fp
  have pk := hk s3 (upd H2 D (o0 D)) s3.heap.objs.size cl fp
  have pins' := hins s3 (upd H2 D (o0 D)) (compEnvC scope cl s3.heap.objs.size X.env) fp
  subst hcl
  show codeAny _ _ (.compStart (.SetComp kx [⟨tg, iter, ifs, 0⟩] scope pos) 0 (.ref it) (.ref D) (compEnvC scope (cellsFrom (s3.heap.objs.size + 1) scope.names (cloFrom X.env.cells scope.names [])) s3.heap.objs.size X.env)) (compPost (model X.prog X.w) X.A X.xe none (EP X pins σ Q) (.ref D) s3.heap.objs.size) { s3 with heap := pushCells (s3.heap.push { cls := .type "dict", data := .dict #[] }) scope.names }
  have nfp : ∀ b ∈ fp, (upd H2 D (o0 D)) b = none := fun b hb => (f3 b hb).1.1
  generalize hce : compEnvC scope (cellsFrom (s3.heap.objs.size + 1) scope.names (cloFrom X.env.cells scope.names [])) s3.heap.objs.size X.env = ce at I4 pg pt pk pins' ⊢
  have cL : ce.locals = s3.heap.objs.size := by subst hce; rfl
  generalize hH3 : upd H2 D (o0 D) = H3 at I3 I4 pg pt pk pins' w0 nfp f3
  generalize hs4 : ({ s3 with heap := pushCells (s3.heap.push { cls := .type "dict", data := .dict #[] }) scope.names } : Shared) = s4 at I4 ⊢
  have st4 : tn 0 s4.heap := T.keep _ _ _ st3 fun b _ o e => by rw [← hs4]; exact pushCells_keeps _ _ _ _ (Heap.get?_push_of_some _ e)
  have stat : ∀ {σ' : St} {H' : Hp} {s' : Shared}, Inv (X.blk s3 H3 scope ce fp) [] σ' H' s' → (∀ b ∈ fp, H' b = none) → ∀ b ∈ fp, FpOk (X.blk s3 H3 scope ce fp) [] H' b := fun {σ' H' s'} I' hn b hb =>
    ⟨hn b hb, (I'.ok.exf b hb).1, I'.ok.exfs b hb, .inl hb, fun x c e => (I'.ok.exf b hb).2 x c e, fun p hp => absurd (show p ∈ ([] : List (Addr × Obj)) ++ [] from hp) (by simp)⟩
  have back : ∀ (s6 : Shared) (H5 : Hp), Inv (X.blk s3 H3 scope ce fp) [] (wipe σ (own.map (·.2))) H5 s6 → Q (.ref D) H5 → compPost (model X.prog X.w) X.A X.xe none (EP X pins σ Q) (.ref D) s3.heap.objs.size (.ok .next) s6 := by
    intro s6 H5 I6 qq
    have I7 : Inv X pins σ H5 s6 := I3.call' (ch := fp) I6.os I6.base I6.hok I6.bare fun b hb => ⟨(f3 b hb).1.2.2.2.1, (f3 b hb).1.2.1, (f3 b hb).1.2.2.2.2.1, (f3 b hb).1.2.2.2.2.2⟩
    have nC : H5 s3.heap.objs.size = none := by
      have z : H5 ce.locals = none := I6.free
      rwa [cL] at z
    obtain ⟨m, hn, _⟩ := I6.loc
    have hn : s6.heap.Ns ce.locals m := hn
    rw [cL] at hn
    obtain ⟨g0, g1, g2, g3, g4, g5⟩ := I3.fpOk (Nat.le_refl _) nC
    exact ⟨m, hn, fun h'' sb => ⟨.ref D, H5, I7.turned (t' := s6.toks) (fun b o hb e => (sb.2 b hb).trans e) g0 g1 g3 g4 g5, rfl, qq⟩⟩
  have loop : codeAny (model X.prog X.w) X.A (.compLoop (.SetComp kx [⟨tg, iter, ifs, 0⟩] scope pos) 0 (.ref it) (.ref D) ce) (compPost (model X.prog X.w) X.A X.xe none (EP X pins σ Q) (.ref D) s3.heap.objs.size) s4 := by
    refine PpSet.compLoopS_any (fun n s' => ∃ i H', Inv (X.blk s3 H3 scope ce fp) [] (wipe σ (own.map (·.2))) H' s' ∧ tn i s'.heap ∧ (∀ b ∈ fp, H' b = none) ∧ W i n H') ?_ m0 ⟨0, H3, I4, st4, nfp, w0⟩
    rintro n s5 ⟨i, H5, I5, st5, n5, w5⟩
    rcases turn i n H5 w5 with ⟨stop, qq⟩ | ⟨go, Nx, hNx, step⟩
    · refine thnF (T.done (X.blk s3 H3 scope ce fp) rfl rfl rfl hc i [] s5 _ H5 (fun _ _ => False) I5 (stat I5 n5) st5 stop) fun r s6 ⟨hr, I6⟩ => ?_
      subst hr
      exact back s6 H5 I6 qq
    · refine thnF (T.item (X.blk s3 H3 scope ce fp) rfl rfl rfl hc i [] s5 _ H5 (fun _ _ => False) I5 (stat I5 n5) st5 go) fun r s6 ⟨u, hr, h6⟩ => ?_
      subst hr
      refine thnF h6 fun _ s7 ⟨x, H7, I7, r7, y7, st7, n7⟩ => ?_
      have I7' := I7.pinned (stat I7 n7) (T.obj _ _ st7)
      refine thnF (pg.run _ s7 _ H7 x u _ I7' r7 (step x H7 y7)) fun _ s8 ⟨σ8, H8, I8, hw8, q8⟩ => ?_
      refine thnF (pt.run _ s8 σ8 H8 _ I8 q8) fun b s9 ⟨H9, I9, q9⟩ => ?_
      have fin : ∀ {s' : Shared} {H' : Hp}, Inv (X.blk s3 H3 scope ce fp) ([] ++ pinsAt fp s7.heap) σ8 H' s' → Nx H' → ∃ m, m < n ∧ ∃ i H', Inv (X.blk s3 H3 scope ce fp) [] (wipe σ (own.map (·.2))) H' s' ∧ tn i s'.heap ∧ (∀ b ∈ fp, H' b = none) ∧ W i m H' := by
        intro s' H' I' nx
        obtain ⟨m', hm, w'⟩ := hNx H' nx
        have pin' : ∀ b ∈ fp, ∀ o, s7.heap.get? b = some o → s'.heap.get? b = some o ∧ H' b = none := fun b hb o e =>
          let z := I'.pin (b, o) (List.mem_append_right _ (List.mem_append_right _ (mem_pinsAt hb e)))
          ⟨z.1, z.2.1⟩
        refine ⟨m', hm, i + 1, H', (I'.unpinned (pins := [])).weak (by rw [← hw8, wipe_length]) (fun j v e => ?_), T.keep _ _ _ st7 fun b hb o e => (pin' b hb o e).1, fun b hb => ?_, w'⟩
        · rw [← hw8] at e
          exact (wipe_some e).1
        · obtain ⟨o, e, _⟩ := T.obj _ _ st7 b hb
          exact (pin' b hb o e).2
      cases b with
      | false => exact fin I9 q9
      | true =>
        refine thnF (pk.run _ s9 σ8 H9 _ I9 q9) fun z s10 ⟨yk, H10, I10, r10, q10⟩ => ?_
        exact thnF (pins' _ _ _ _ _ _ _ _ _ I10 r10 q10) fun _ s12 ⟨H12, I12, nx⟩ => fin I12 nx
  exact PpSet.codeAny_compStart_set loop (T.self X.A 0 _ _ _ st4 loop)
end
def insK (P : Program) (w : World) : InsS := fun D y H Q => ∃ (k : Key) (S : Key → Bool) (n : Nat), y = kV k ∧ H D = some (SetK P w D S n) ∧ n + 1 < scanBound ∧ Q (upd H D (SetK P w D (fun j => S j || decide (j = k)) (if S k = true then n else n + 1)))
theorem ins_K {Y : Cx} : InsSAt Y (insK Y.prog Y.w) := by
  intro pins σ H s E D y u Q I ry h
  obtain ⟨k, S, n, rfl, h1, h2, q⟩ := h
  refine call_set_add (kV_is ry) (key_scan ry) (setK_get I h1) h2 fun h' sb new => ?_
  have he : ∃ u, h'.get? D = some u := let ⟨o, _, _, _, ho, _⟩ := new; ⟨o, ho⟩
  exact ⟨_, I.write (e := D) (t' := s.toks + 1) (by rw [h1]; trivial) (.inl rfl) (fun b u hb hu => (sb.2 b hb).trans hu) he (setK_new new), q⟩
theorem new_K {P : Program} {w : World} (H : Hp) (h : Heap) : ObjOk P w H (h.push (emptyS w)) h.objs.size (SetK P w h.objs.size (fun _ => false) 0) :=
  setK_new ⟨_, #[], 0, _, Heap.get?_push_size _ rfl, ⟨rfl, rfl, rfl⟩, rfl, (fun e he => by simp at he), (fun k => by simp), (by decide), (by rfl), rfl⟩
def call_lenK {X : Cx} : CallR X (.builtin "len") (fun xs H Q => ∃ a S n, xs = [V.ref a] ∧ H a = some (SetK X.prog X.w a S n) ∧ n < scanBound ∧ Q (.int (n : Nat)) H) := by
  intro pins s σ H xs us Q I r h
  obtain ⟨a, S, n, rfl, ha, hn, q⟩ := h
  obtain ⟨u, rfl, rx⟩ := vals1 r
  cases rx
  obtain ⟨o, es, ep, t, ho, hex, hd, _, _, _, hf, hz⟩ := setK_get I ha
  have hb : scanBound < 2 ^ 62 := by decide
  refine call_len_set ho hex hd hf (by omega) ⟨.int (n : Nat), H, I.tok _, ⟨_, by rw [hz]⟩, q⟩
end PD

set_option Elab.async false
set_option linter.all false
set_option maxRecDepth 100000
set_option maxHeartbeats 2000000
set_option autoImplicit false
namespace PD
open PySem L2 PySem.Spec

def memK (acc : List Key) (k : Key) : Bool := acc.any fun j => decide (j = k)
def addK (acc : List Key) (k : Key) : List Key := if memK acc k = true then acc else acc ++ [k]
def scLoop (g : PyData → Env → Option Env) (tt : DenB) (tk : Den) (vs : List Nat) : List PyData → List Key → Env → Out (List Key)
  | [], acc, ρ => .ok acc ρ
  | d :: ds, acc, ρ => match g d ρ with
    | none => .bad
    | some ρ1 => match tt ρ1 with
      | .ok true ρ2 => (match tk ρ2 with
        | .ok y ρ3 => (match toKey y with
          | some k => if acc.length + 1 < scanBound then scLoop g tt tk vs ds (addK acc k) (wipeE ρ3 vs) else .bad
          | none => .bad)
        | _ => .bad)
      | .ok false ρ2 => scLoop g tt tk vs ds acc (wipeE ρ2 vs)
      | _ => .bad
def dLenSC (it : DenL) (g : PyData → Env → Option Env) (tt : DenB) (tk : Den) (vs : List Nat) : Den := fun ρ => (it ρ).bind fun ds ρ => match scLoop g tt tk vs ds [] (wipeE ρ vs) with
  | .ok ks ρend => if ks.length < scanBound then .ok (.int (ks.length : Int)) (unwipe ρ ρend vs) else .bad
  | _ => .bad
abbrev setO (P : Program) (w : World) (D : Addr) (acc : List Key) : HO := SetK P w D (memK acc) acc.length
theorem setO_nil {P : Program} {w : World} {D : Addr} : SetK P w D (fun _ => false) 0 = setO P w D [] := rfl
theorem setO_add {P : Program} {w : World} {D : Addr} {acc : List Key} {k : Key} : SetK P w D (fun j => memK acc j || decide (j = k)) (if memK acc k = true then acc.length else acc.length + 1) = setO P w D (addK acc k) := by
  unfold setO addK
  by_cases h : memK acc k = true
  · rw [if_pos h, if_pos h]
    congr 1
    funext j
    by_cases e : j = k
    · subst e; rw [h]; rfl
    · simp [e]
  · rw [if_neg h, if_neg h, List.length_append]
    congr 1
    funext j
    unfold memK
    rw [List.any_append]
    simp only [List.any_cons, List.any_nil, Bool.or_false]
    congr 1
    by_cases e : j = k
    · subst e; simp
    · rw [decide_eq_false e, decide_eq_false (fun z : k = j => e z.symm)]
section
variable {X : Cx} {W : WX} {M : List Md} {k : Kd} {pos : Pos} {tg : Expr}
structure ScW (X : Cx) (M : List Md) (G F0 : Hp) (σ : St) (vs : List Nat) (D : Addr) (g : PyData → Env → Option Env) (tt : DenB) (tk : Den) (ds : List PyData) (kfin : List Key) (ρend : Env) (i : Nat) (H : Hp) : Prop where
  le : i ≤ ds.length
  ex : ∃ ρ F acc, SR (kt X) M (upd G D (setO X.prog X.w D acc)) F ρ (wipe σ vs) H ∧ Sub F0 F ∧ F D = none ∧ scLoop g tt tk vs (ds.drop i) acc ρ = .ok kfin ρend
theorem sc_turn {bb : Bool} {G F0 : Hp} {σ : St} {vs : List Nat} {D : Addr} {g : PyData → Env → Option Env} {tt : DenB} {tk : Den} {ds : List PyData} {kfin : List Key} {ρend : Env} {i : Nat} {H : Hp} {J : It} (hG : G D = none) (wk : Wk bb (kt X) J ds F0)
    (w : ScW X M G F0 σ vs D g tt tk ds kfin ρend i H) {tgt : TG} {ttt : TT} {tkt : TE}
    (qg : ∀ v σ H Q, (∃ G F ρ d ρ', SR (kt X) M G F ρ σ H ∧ RepB bb (kt X) F d v ∧ g d ρ = some ρ' ∧ (∀ σ', SR (kt X) M G F ρ' σ' H → Keep M σ σ' → (∀ i, i ∉ vs → σ'[i]? = σ[i]?) → Q σ' H)) → tgt v σ H Q)
    (qt : ∀ σ H Q, (∃ G F ρ, SR (kt X) M G F ρ σ H ∧ Post X W0 M G F σ (tt ρ) (fun c _ _ H' => Q c H')) → ttt σ H Q)
    (qk : ∀ σ H Q, (∃ G F ρ, SR (kt X) M G F ρ σ H ∧ Post X W0 M G F σ (tk ρ) (fun d ρ' F' H' => ∀ v, ResK .sh (kt X) M G F' H' ρ' σ v d → Q v H')) → tkt σ H Q) (hlt : i < ds.length) :
    J.go i H ∧ ∀ x H', J.yld i H x H' → tgt x (wipe σ vs) H' fun σ2 H2 => wipe σ2 vs = wipe σ vs ∧ ttt σ2 H2 fun b H3 =>
      if b = true then tkt σ2 H3 fun y H4 => insK X.prog X.w D y H4 (ScW X M G F0 σ vs D g tt tk ds kfin ρend (i + 1))
      else ScW X M G F0 σ vs D g tt tk ds kfin ρend (i + 1) H3 := by
  obtain ⟨_, ρ, F, acc, S, s0, hF, el⟩ := w
  obtain ⟨hgo, hy⟩ := (wk i F H s0 S.fh).1 ds[i] (List.getElem?_eq_getElem hlt)
  refine ⟨hgo, fun x H' y => ?_⟩
  obtain ⟨sH, F2, s2, tr, rx⟩ := hy x H' y
  have S2 := tr _ _ _ _ S
  rw [List.drop_eq_getElem_cons hlt] at el
  unfold scLoop at el
  cases e1 : g ds[i] ρ with
  | none => rw [e1] at el; cases el
  | some ρ1 =>
    rw [e1] at el
    dsimp only at el
    refine qg _ _ _ _ ⟨_, F2, ρ, ds[i], ρ1, S2, rx, e1, fun σ2 S3 k3 o3 => ?_⟩
    have l3 : σ2.length = σ.length := k3.1.trans (wipe_length σ vs)
    refine ⟨wipe_eq l3 o3, ?_⟩
    cases e2 : tt ρ1 with
    | bad => rw [e2] at el; cases el
    | exc _ _ => rw [e2] at el; cases el
    | ok b ρ2 =>
      rw [e2] at el
      refine qt _ _ _ ⟨_, F2, ρ1, S3, ?_⟩
      rw [e2]
      intro F3 H3 s3 S4
      cases b with
      | false =>
        rw [if_neg Bool.false_ne_true]
        dsimp only at el
        exact ⟨hlt, wipeE ρ2 vs, F3, acc, wipe_sr S4 l3 o3, (s0.tr s2).tr s3, S4.dj D _ upd_same, el⟩
      | true =>
        rw [if_pos rfl]
        dsimp only at el
        cases e3 : tk ρ2 with
        | bad => rw [e3] at el; cases el
        | exc _ _ => rw [e3] at el; cases el
        | ok yd ρ3 =>
          rw [e3] at el
          dsimp only at el
          refine qk _ _ _ ⟨_, F3, ρ2, S4, ?_⟩
          rw [e3]
          intro F4 H4 s4 S5 v rv
          cases e4 : toKey yd with
          | none => rw [e4] at el; cases el
          | some key =>
            rw [e4] at el
            dsimp only at el
            split at el
            · rename_i hz
              have hF4 : F4 D = none := S5.dj D _ upd_same
              refine ⟨key, _, _, toKey_rep rv e4, S5.gh D _ upd_same, hz, ?_⟩
              rw [setO_add]
              exact ⟨hlt, wipeE ρ3 vs, F4, addK acc key, wipe_sr (S5.turn hF4 hG) l3 o3, ((s0.tr s2).tr s3).tr s4, hF4, el⟩
            · cases el
theorem px_lenSC {bb : Bool} {N : List Str} {sc : Scope} {fn : Str → Bool} {kx iter : Expr} {ifs : List Expr} {scope : Scope} {own : List (Str × Nat)} {vs' : List Nat} {it : DenL} {g : PyData → Env → Option Env} {tt : DenB} {tk : Den} {p pos1 : Pos} (c : CF X N sc fn) (hgl : Gl X "len") (hm : X.mg "len" = none)
    (hi : PIX bb X W M tg iter it) (ok : blkC N sc scope own = true)
    (hvs : ∀ i ∈ own.map (·.2), M[i]? = some .sh) (hsub : ∀ i ∈ vs', i ∈ own.map (·.2)) (hg : ∀ b, PGX bb (bX X scope b) M tg vs' g) (ht : ∀ b, PXTs (bX X scope b) W0 M ifs tt) (hk : ∀ b, PX (bX X scope b) W0 M .sh kx tk)
    (hs : ∀ x, foldedSetIterable iter X.env x = pure x := by intro _; rfl)
    (he : starEach [.SetComp kx [⟨tg, iter, ifs, 0⟩] scope pos1] X.env = (false, eval (.SetComp kx [⟨tg, iter, ifs, 0⟩] scope pos1) X.env) :: starEach [] X.env := by rfl) (hpl : (backTo pos (starEach [] X.env)).any (·.1) = false := by rfl) :
    PX X W M k (.Call (.Name "len" p) [.SetComp kx [⟨tg, iter, ifs, 0⟩] scope pos1] [] pos) (dLenSC it g tt tk (own.map (·.2))) := by
  obtain ⟨wi, pi, qi⟩ := hi
  obtain ⟨tgt, pg, qg⟩ := PGX.all hg
  obtain ⟨ttt, pt, qt⟩ := PXTs.all ht
  obtain ⟨tkt, pk, qk⟩ := PX.all hk
  have ps := pe_sg (X := X) (pos := pos1) (o0 := fun D => SetK X.prog X.w D (fun _ => false) 0) (ins := insK X.prog X.w) (fun H h => .inl (new_K H h)) (fun _ _ _ _ => ins_K) c.calm c.ndX pi (c.hN' ok) (fun s H C cl fp => pg ⟨s, H, C, cl, fp⟩) (fun s H C cl fp => pt ⟨s, H, C, cl, fp⟩) (fun s H C cl fp => pk ⟨s, H, C, cl, fp⟩) hs
  refine ⟨_, pe_callB call_lenK hgl hm bt_len (pa_cons ps pa_nil he) (by decide) (by decide) he hpl, fun G F ρ σ H Q S w => ?_⟩
  refine qi _ _ _ _ _ _ S ((Post.bind w).imp fun ds ρ0 F1 H1 s1 S1 w1 J wk => ?_)
  intro D hD lowD
  cases el : scLoop g tt tk (own.map (·.2)) ds [] (wipeE ρ0 (own.map (·.2))) with
  | bad => rw [el] at w1; exact w1.elim
  | exc _ _ => rw [el] at w1; exact w1.elim
  | ok kfin ρend =>
    rw [el] at w1
    dsimp only at w1
    split at w1
    rotate_left
    · exact w1.elim
    rename_i hz
    have hG : G D = none := S1.gh.none hD
    have hF : F1 D = none := S1.fh.none hD
    have start : ScW X M G F1 σ (own.map (·.2)) D g tt tk ds kfin ρend 0 (upd H1 D (SetK X.prog X.w D (fun _ => false) 0)) := by
      rw [setO_nil]
      refine ⟨Nat.zero_le _, wipeE ρ0 (own.map (·.2)), F1, [], ?_, Sub.rfl', hF, by rw [List.drop_zero]; exact el⟩
      refine (S1.fresh hD |>.forget (wipeE_length _ _) (wipe_length _ _) fun i d hd => ?_).guard upd_same hF fun i oi => ?_
      · obtain ⟨h1, h2⟩ := wipeE_some hd
        exact ⟨h1, wipe_out' h2⟩
      · obtain ⟨m, d, h1, h2, h3, h4⟩ := oi
        obtain ⟨h3', h5⟩ := wipeE_some h3
        rw [wipe_out' h5] at h4
        obtain ⟨_, _, u, hu⟩ := S1.own ⟨m, d, h1, h2, h3', h4⟩
        rw [hD] at hu; cases hu
    refine ⟨fun i m H' => m = ds.length - i ∧ ScW X M G F1 σ (own.map (·.2)) D g tt tk ds kfin ρend i H', ⟨_, rfl, start⟩, ?_⟩
    rintro i m H' ⟨rfl, lw⟩
    by_cases hlt : i < ds.length
    · obtain ⟨hgo, hy⟩ := sc_turn hG wk lw (fun v σ H Q ⟨G, F, ρ, d, ρ', S, r, e, k⟩ => qg v σ H Q fun b => ⟨G, F, ρ, d, ρ', S, r, e, fun σ' S' k' o' => k σ' S' k' fun i hn => o' i fun z => hn (hsub i z)⟩)
        (fun σ H Q ⟨G, F, ρ, S, p⟩ => qt σ H Q fun b => ⟨G, F, ρ, S, p⟩) (fun σ H Q ⟨G, F, ρ, S, p⟩ => qk σ H Q fun b => ⟨G, F, ρ, S, p⟩) hlt
      exact .inr ⟨hgo, ScW X M G F1 σ (own.map (·.2)) D g tt tk ds kfin ρend (i + 1), fun H2 h2 => ⟨_, by omega, rfl, h2⟩, hy⟩
    · have e : i = ds.length := by have := lw.le; omega
      subst e
      obtain ⟨_, ρ, F, acc, S, s0, hFD, ll⟩ := lw
      refine .inl ⟨(wk _ F H' s0 S.fh).2 (List.getElem?_eq_none_iff.mpr (Nat.le_refl _)), ?_⟩
      rw [List.drop_length] at ll
      unfold scLoop at ll
      cases ll
      refine ⟨D, _, _, rfl, S.gh D _ upd_same, hz, ?_⟩
      have S2 := S.unguard (Sub.mk hG)
      have back : ∀ n a, OwnAt M (unwipe ρ0 ρend (own.map (·.2))) σ n a → OwnAt M ρend (wipe σ (own.map (·.2))) n a := by
        rintro n a ⟨m, d, h1, h2, h3, h4⟩
        rcases unwipe_some h3 with ⟨hm, _⟩ | ⟨hm, h3⟩
        · rw [hvs n hm] at h1; cases h1; cases h2
        · exact ⟨m, d, h1, h2, h3, by rw [wipe_out' hm]; exact h4⟩
      have S3 : SR (kt X) M G F (unwipe ρ0 ρend (own.map (·.2))) σ H' := by
        refine ⟨S2.gh, S2.fh, by rw [unwipe_length]; exact S2.lm, by rw [unwipe_length]; exact Nat.le_trans S2.ls (Nat.le_of_eq (wipe_length σ _)), fun i d m hd hm => ?_, fun i j a oi oj => S2.ap i j a (back i a oi) (back j a oj), S2.dj⟩
        rcases unwipe_some hd with ⟨hv, hd⟩ | ⟨hv, hd⟩
        · rw [hvs i hv] at hm; cases hm
          obtain ⟨v, e, r⟩ := S1.sl i d .sh hd (hvs i hv)
          exact ⟨v, e, r.mono s0⟩
        · have q := S2.sl i d m hd hm
          rw [wipe_out' hv] at q
          exact q
      exact w1 F H' s0 S3 _ (ResK.sc (.int _) rfl)
end
end PD

set_option Elab.async false
set_option linter.all false
set_option maxRecDepth 100000
set_option maxHeartbeats 2000000
set_option autoImplicit false
namespace PD
open PySem L2 PySem.Spec

/-! ### further short words -/
section
variable {X : Cx} {N : List Str} {sc : Scope} {fn : Str → Bool} {W : WX} {M : List Md} {k : Kd} {pos p : Pos} {i : Nat} {x : Str} {m : Md} {e b : Expr} {f g : Den}
theorem CF.u1 (c : CF X N sc fn) : X.A.units + 1 < cLine := by have := c.un; omega
theorem CF.u100 (c : CF X N sc fn) : X.A.units + 100 < cLine := by have := c.un; omega
def dNeg (f : Den) : Den := fun ρ => (f ρ).bind fun d ρ => match d with
  | .int i => .ok (.int (-i)) ρ
  | _ => .bad
theorem px_neg (h : PX X W M .ow e f) : PX X W M k (.UnaryOp .USub e pos) (dNeg f) := by
  obtain ⟨t, pt, q⟩ := h
  refine ⟨_, pe_un un_neg pt, fun G F ρ σ H Q S w => q _ _ _ _ _ _ S ((Post.bind w).imp fun d ρ1 F1 H1 _ S1 w1 v r => ?_)⟩
  split at w1
  · exact ⟨_, brw_int r, w1.now S1 _ (ResK.sc (.int _) rfl)⟩
  · exact w1.elim
/-- an own slot's list or dict, handed out for good: the slot is not read again -/
def dTake (i : Nat) : Den := fun ρ => match ρ[i]? with
  | some (some d) => if isMut d = true then .ok d (ρ.set i none) else .bad
  | _ => .bad
theorem px_take (hi : X.N[i]? = some x) (hv : Vis X.env.scope x) (hm : M[i]? = some .ow) (hd : (x == ("__debug__" : Str)) = false := by decide) (hcd : (x == ("__classdict__" : Str)) = false := by decide) : PX X W M .fr (.Name x pos) (dTake i) := by
  refine ⟨_, pe_var hi hv hd hcd, fun G F ρ σ H Q S w => ?_⟩
  unfold dTake at w
  split at w
  · rename_i d hx
    split at w
    · rename_i hmu
      obtain ⟨a, e, g, f, t⟩ := S.top hm rfl hx
      refine ⟨_, e, ?_⟩
      have hl : i < ρ.length := (List.getElem?_eq_some_iff.mp hx).1
      have S' : SR (kt X) M G F (ρ.set i none) σ H := S.forget (by rw [List.length_set]) rfl fun j d' hd' => by
        by_cases q : i = j
        · subst q; rw [List.getElem?_set_self hl] at hd'; cases hd'
        · rw [List.getElem?_set_ne q] at hd'; exact ⟨hd', rfl⟩
      refine w.now S' _ ⟨fun z => (by rw [hmu] at z; cases z), fun _ => ⟨a, rfl, g, f, t, fun j oj => ?_⟩⟩
      obtain ⟨m', d', h1, h2, h3, h4⟩ := oj
      by_cases q : i = j
      · subst q; rw [List.getElem?_set_self hl] at h3; cases h3
      · rw [List.getElem?_set_ne q] at h3
        exact q (S.ap i j a ⟨.ow, d, hm, rfl, hx, e⟩ ⟨m', d', h1, h2, h3, h4⟩)
    · exact w.elim
  · exact w.elim
theorem wtake (c : CF X N sc fn) (hi : N[i]? = some x) (hm : M[i]? = some .ow) (h : okV sc x = true) : PX X W M .fr (.Name x pos) (dTake i) := px_take (c.hi hi) (c.hv (okV_vis h)) hm (okV_d h) (okV_c h)
def gNotInS : PyData → PyData → Option PyData := fun a b => (gInS a b).map fun d => match d with
  | .bool b => .bool (!b)
  | d => d
theorem od_notInS : OpD X M k (compareOp .NotIn) gNotInS := by
  refine ⟨_, op_notin_str, fun W G F ρ σ H x y dx dy d Q S bx b_y e p => ?_⟩
  unfold gNotInS gInS at e
  split at e
  · cases e
    exact ⟨_, _, brw_str bx, brw_str b_y, p.now S _ (ResK.sc (.bl _) rfl)⟩
  · cases e
theorem wdgetO (c : CF X N sc fn) (hi : N[i]? = some x) (hm : M[i]? = some m) (hw : m.own = true) (h : okV sc x = true) (hb : PX X W M .ow b g) (hs : NoSl b) : PX X W M .sh (.Subscript (.Name x p) b pos) (dOpO gDGet i g) := px_dgetO c.u1 (c.hi hi) (c.hv (okV_vis h)) hm hb hs hw (okV_d h) (okV_c h)
theorem wngetO (c : CF X N sc fn) (hi : N[i]? = some x) (hm : M[i]? = some m) (hw : m.own = true) (h : okV sc x = true) (hb : PX X W M .ow b g) (hs : NoSl b) : PX X W M .sh (.Subscript (.Name x p) b pos) (dOpO gNGet i g) := px_ngetO c.u100 (c.hi hi) (c.hv (okV_vis h)) hm hb hs hw (okV_d h) (okV_c h)
theorem wstK {j : Nat} {py p2 : Pos} {ix : Expr} {fi : Den} (c : CF X N sc fn) (hj : N[j]? = some x) (hm : M[j]? = some m) (hw : m.own = true) (h : okV sc x = true) (hi : PX X W M .sh ix fi) (he : PX X W M .sh e f)
    (hs : swapsWith e (some (.Subscript (.Name x py) ix p2)) pos.line X.env = pure false := by rfl) : PSX X W M k (.Assign [.Subscript (.Name x py) ix p2] e pos) (dStK j f fi) :=
  psx_stK c.u1 (c.hi hj) (c.hv (okV_vis h)) hm hi he hw (okV_d h) (okV_c h) hs
theorem wstN {j : Nat} {py p2 : Pos} {ix : Expr} {fi : Den} (c : CF X N sc fn) (hj : N[j]? = some x) (hm : M[j]? = some m) (hw : m.own = true) (h : okV sc x = true) (hi : PX X W M .sh ix fi) (he : PX X W M .sh e f) (ha : ∀ v, assign (.Subscript (.Name x py) ix p2) X.env v = (do
      let ov ← holding [v] (eval (.Name x py) X.env)
      let iv ← holding [v, ov] (eval ix X.env)
      standAt p2
      holding [v, ov, iv] (setItem ov iv v)
      release [v, ov, iv] []) := by intro _; rfl)
    (hs : swapsWithSole [.Subscript (.Name x py) ix p2] e pos.line X.env = pure false := by rfl) (hw2 : swappedStores [.Subscript (.Name x py) ix p2] e X.env = pure none := by rfl) (h1 : (assignEach [.Subscript (.Name x py) ix p2] X.env).map (·.2) = [assign (.Subscript (.Name x py) ix p2) X.env] := by rfl) : PSX X W M k (.Assign [.Subscript (.Name x py) ix p2] e pos) (dStN j f fi) :=
  psx_stN c.u100 (c.hi hj) (c.hv (okV_vis h)) hm hi he hw (okV_d h) (okV_c h) ha hs hw2 h1
/-- y = [.. for .. for ..] on one line -/
theorem wsetLC2 {spos py : Pos} {tg tg1 elt iter iter1 : Expr} {ifs ifs1 : List Expr} {scope : Scope} {own : List (Str × Nat)} {vs' vs1 : List Nat} {it it1 : DenL} {bb bb1 : Bool} {gg g1 : PyData → Env → Option Env} {tt tt1 : DenB} {te : Den} (c : CF X N sc fn) (hi : N[i]? = some x) (hm : M[i]? = some .sh) (hloc : locB sc x = true) (hk : X.env.scope.kind = .function) (hl : (py.line == pos.line) = true) (hap : apartB scope x = true)
    (hit : PIX bb X W M tg iter it) (ok : blkC N sc scope own = true) (hvs : ∀ i ∈ own.map (·.2), M[i]? = some .sh) (hsub : ∀ i ∈ vs', i ∈ own.map (·.2)) (hv1 : ∀ i ∈ vs1, i ∈ own.map (·.2)) (hg : ∀ b, PGX bb (bX X scope b) M tg vs' gg) (ht : ∀ b, PXTs (bX X scope b) W0 M ifs tt)
    (hi1 : ∀ b, PIX bb1 (bX X scope b) W0 M tg1 iter1 it1) (hg1 : ∀ b, PGX bb1 (bX X scope b) M tg1 vs1 g1) (ht1 : ∀ b, PXTs (bX X scope b) W0 M ifs1 tt1) (he : ∀ b, PX (bX X scope b) W0 M .sh elt te)
    (hs : ∀ x, foldedSetIterable iter X.env x = pure x := by intro _; rfl) (hs1 : ∀ env x, foldedSetIterable iter1 env x = pure x := by intro _ _; rfl) : PSX X W M k (.Assign [.Name x py] (.ListComp elt [⟨tg, iter, ifs, 0⟩, ⟨tg1, iter1, ifs1, 0⟩] scope pos) spos) (dSet i (dLC2 it gg tt it1 g1 tt1 te (own.map (·.2)) vs1)) :=
  psx_setLC2 (fs := dSet i) c (c.hi hi) (locB_eq c hloc) (sw_by c hk hloc hl hap) hit ok hvs hsub hv1 hg ht hi1 hg1 ht1 he (end_set hm) hs hs1
theorem wsetDCF {spos py : Pos} {tg kx vx iter : Expr} {ifs : List Expr} {scope : Scope} {own : List (Str × Nat)} {vs' : List Nat} {it : DenL} {bb : Bool} {gg : PyData → Env → Option Env} {tt : DenB} {tk tv : Den} (c : CF X N sc fn) (hi : N[i]? = some x) (hm : M[i]? = some .sh) (hloc : locB sc x = true) (hk : X.env.scope.kind = .function) (hl : (py.line == pos.line) = true) (hap : apartB scope x = true)
    (hit : PIX bb X W M tg iter it) (ok : blkC N sc scope own = true) (hvs : ∀ i ∈ own.map (·.2), M[i]? = some .sh) (hsub : ∀ i ∈ vs', i ∈ own.map (·.2)) (hg : ∀ b, PGX bb (bX X scope b) M tg vs' gg) (ht : ∀ b, PXTs (bX X scope b) W0 M ifs tt) (hkx : ∀ b, PX (bX X scope b) W0 M .sh kx tk) (hvx : ∀ b, PX (bX X scope b) W0 M .sh vx tv)
    (hs : ∀ x, foldedSetIterable iter X.env x = pure x := by intro _; rfl) : PSX X W M k (.Assign [.Name x py] (.DictComp kx vx [⟨tg, iter, ifs, 0⟩] scope pos) spos) (dSet i (dDC putF (.dict []) it gg tt tk tv (own.map (·.2)))) :=
  psx_setDC (fs := dSet i) c (c.hi hi) (locB_eq c hloc) (sw_dc hk (locB_eq c hloc) hl (by unfold apartB at hap; simpa using hap)) putD_F (fun H h => if z : sysModules < h.objs.size then .inl (dk_empty h z) else .inr z) (fun _ _ _ _ => ins_F) hit ok hvs hsub hg ht hkx hvx (end_set hm) hs
end
end PD

set_option Elab.async false
set_option linter.all false
set_option maxRecDepth 100000
set_option maxHeartbeats 2000000
set_option autoImplicit false
namespace PD
open PySem L2 PySem.Spec
/-- a def of which nothing is asked -/
theorem fnx_bad {P : Program} {w : World} {K : PySem.W.Frag} {mg : Str → Option Value} {base : Heap} {n : Nat} {x : Str} {st : Stmt} {N ps : List Str} {ms : List Md} {k : Kd} (D : Def K mg x st) (S : FnScope N ps (defScope st)) (hlen : ms.length = ps.length)
    (hbind : ∀ (kV doc pm : Value) (an : Option Addr) (cdv ct : Value) (us : List Value), us.length = ps.length → bindArgs (PySem.W.fnOf x x (defArgs st) (defBody st) (defScope st) .none kV doc pm an cdv ct) ⟨us, []⟩ = pure (ps.zip us)) : FnX P w K mg base n x ms k (fun _ => .bad) := by
  obtain ⟨f, fd, F, hm⟩ := D.ex
  refine ⟨f, fd, ps, hm, F.kp, F.binds hbind, hlen, fun A outer s H args us vs Q E _ _ _ _ _ hs => ?_⟩
  obtain ⟨ds, G, F0, _, _, _, h⟩ := hs
  exact h.elim
end PD
namespace PD
open PySem L2 PySem.Spec
def cellB (sc : Scope) (x : Str) : Bool := match sc.names.lookup x with
  | some .cell => true
  | _ => false
theorem sw_cell {X : Cx} {N : List Str} {sc : Scope} {fn : Str → Bool} (c : CF X N sc fn) {kx vx : Expr} {gs : List Comprehension} {scope : Scope} {pos p : Pos} {x : Str} {l : Nat} (h : cellB sc x = true) : swapsWith (.DictComp kx vx gs scope pos) (some (.Name x p)) l X.env = pure false := by
  have k : X.env.kindOf x = some .cell := by
    show X.env.scope.names.lookup x = _
    rw [c.hs]
    unfold cellB at h
    split at h
    · assumption
    · cases h
  unfold swapsWith
  simp only [k]
  have e : (NameKind.cell == NameKind.local) = false := by decide
  simp [e]
end PD

set_option Elab.async false
set_option linter.all false
set_option maxRecDepth 100000
set_option maxHeartbeats 1000000
set_option autoImplicit false
namespace PD
open PySem L2 PySem.Spec

/-! ### what an outcome must show -/
/-- it keeps simp out of what stands ahead of it -/
inductive PTag {α : Type} (R : α) : Type
  | a | b
@[irreducible] def Wp {α : Type} (o : Out α) (R : α → Env → Prop) (_ : PTag R := .a) : Prop := match o with
  | .ok a ρ => R a ρ
  | _ => False
@[irreducible] def WpF (o : FOut) (R : PyData → List PyData → Prop) (_ : PTag R := .a) : Prop := match o with
  | .ok d ps => R d ps
  | _ => False
@[irreducible] def WpO {α : Type} (o : Option α) (R : α → Prop) (_ : PTag R := .a) : Prop := match o with
  | some a => R a
  | none => False
theorem Wp.cg {α : Type} {o : Out α} {R R' : α → Env → Prop} (h : ∀ a ρ, R a ρ = R' a ρ) : Wp o R = Wp o R' := by with_unfolding_all
  rw [show R = R' from funext fun a => funext fun ρ => h a ρ]
theorem WpO.cg {α : Type} {o : Option α} {R R' : α → Prop} (h : ∀ a, R a = R' a) : WpO o R = WpO o R' := by with_unfolding_all
  rw [show R = R' from funext fun a => h a]
/-- where a test leads -/
@[irreducible] def Bt (b : Bool) (P Q : Prop) (_ : PTag (P, Q) := .a) : Prop := (b = true → P) ∧ (b = false → Q)
theorem bt_t {P Q : Prop} : Bt true P Q = P := by with_unfolding_all (simp [Bt])
theorem bt_f {P Q : Prop} : Bt false P Q = Q := by with_unfolding_all (simp [Bt])
theorem Bt.mk {b : Bool} {P Q : Prop} (h1 : b = true → P) (h2 : b = false → Q) : Bt b P Q := by with_unfolding_all exact ⟨h1, h2⟩
theorem bt_eq {b : Bool} {P Q : Prop} : Bt b P Q = ((b = true → P) ∧ (¬ b = true → Q)) := by with_unfolding_all (cases b <;> simp [Bt])
def WpB (d : PyData) (K : Bool → Prop) (_ : PTag K := .a) : Prop := match d with
  | .bool b => K b
  | _ => False
def WpI (d : PyData) (K : Int → Prop) (_ : PTag K := .a) : Prop := match d with
  | .int b => K b
  | _ => False
def WpS (d : PyData) (K : Str → Prop) (_ : PTag K := .a) : Prop := match d with
  | .str b => K b
  | _ => False
theorem wpi {b : Int} {K : Int → Prop} : WpI (.int b) K = K b := by with_unfolding_all rfl
theorem wps {b : Str} {K : Str → Prop} : WpS (.str b) K = K b := by with_unfolding_all rfl

theorem Wp.imp {α : Type} {o : Out α} {R R' : α → Env → Prop} (h : Wp o R) (k : ∀ a ρ, R a ρ → R' a ρ) : Wp o R' := by with_unfolding_all
  cases o with
  | ok a ρ => exact k a ρ h
  | _ => exact h
theorem WpF.imp {o : FOut} {R R' : PyData → List PyData → Prop} (h : WpF o R) (k : ∀ a ρ, R a ρ → R' a ρ) : WpF o R' := by with_unfolding_all
  cases o with
  | ok a ρ => exact k a ρ h
  | _ => exact h
theorem WpO.imp {α : Type} {o : Option α} {R R' : α → Prop} (h : WpO o R) (k : ∀ a, R a → R' a) : WpO o R' := by with_unfolding_all
  cases o with
  | some a => exact k a h
  | _ => exact h
theorem WpF.get {o : FOut} {R : PyData → List PyData → Prop} (h : WpF o R) : ∃ d ps, o = .ok d ps ∧ R d ps := by with_unfolding_all
  cases o with
  | ok a ρ => exact ⟨_, _, rfl, h⟩
  | _ => exact h.elim
theorem WpF.eq {o : FOut} {d : PyData} {ps : List PyData} (h : WpF o fun a qs => a = d ∧ qs = ps) : o = .ok d ps := by with_unfolding_all
  obtain ⟨a, qs, e, rfl, rfl⟩ := h.get
  exact e
theorem WpF.of {o : FOut} {d : PyData} {ps : List PyData} {R : PyData → List PyData → Prop} (h : o = .ok d ps) (r : R d ps) : WpF o R := by with_unfolding_all
  rw [h]; exact r
theorem WpF.ok' {d : PyData} {ps : List PyData} {R : PyData → List PyData → Prop} : WpF (.ok d ps) R = R d ps := by with_unfolding_all rfl

section
variable {α β : Type} {R : α → Env → Prop} {Q : PyData → Env → Prop} {ρ : Env}
theorem wp_ok {a : α} : Wp (.ok a ρ) R = R a ρ := by with_unfolding_all rfl
theorem wp_bind {o : Out α} {k : α → Env → Out β} {R : β → Env → Prop} : Wp (o.bind k) R = Wp o fun a ρ => Wp (k a ρ) R := by with_unfolding_all
  cases o <;> rfl
theorem wp_ite {c : Prop} [Decidable c] {x y : Out α} : Wp (if c then x else y) R = ((c → Wp x R) ∧ (¬c → Wp y R)) := by with_unfolding_all
  by_cases h : c <;> simp [h]
theorem wp_if {c : Prop} [Decidable c] {x : Out α} : Wp (if c then x else .bad) R = (c ∧ Wp x R) := by with_unfolding_all
  by_cases h : c <;> simp [h, Wp]
theorem wpo_some {a : α} {K : α → Prop} : WpO (some a) K = K a := by with_unfolding_all rfl
theorem wpo_none {K : α → Prop} : WpO none K = False := by with_unfolding_all rfl
theorem wpo_map {o : Option α} {f : α → β} {K : β → Prop} : WpO (o.map f) K = WpO o fun a => K (f a) := by with_unfolding_all (cases o <;> rfl)
theorem wpo_bind {o : Option α} {f : α → Option β} {K : β → Prop} : WpO (o.bind f) K = WpO o fun a => WpO (f a) K := by with_unfolding_all (cases o <;> rfl)
theorem wpo_if {c : Prop} [Decidable c] {x : Option α} {K : α → Prop} : WpO (if c then x else none) K = (c ∧ WpO x K) := by with_unfolding_all
  by_cases h : c <;> simp [h, WpO]
theorem wp_mo {o : Option α} {k : α → Out β} {R : β → Env → Prop} : Wp (match o with | some a => k a | none => .bad) R = WpO o fun a => Wp (k a) R := by with_unfolding_all
  cases o <;> rfl
/-! names, constants, displays -/
theorem wp_var {i : Nat} : Wp (dVar i ρ) Q = WpO (ρ[i]?) fun o => WpO o fun d => Q d ρ := by with_unfolding_all
  unfold dVar
  split <;> rename_i h
  · simp [h, Wp, WpO]
  · cases e : ρ[i]? with
    | none => simp [Wp, WpO]
    | some o => cases o with
      | none => simp [Wp, WpO]
      | some d => exact absurd e (h d)
theorem wp_c {d : PyData} : Wp (dC d ρ) Q = Q d ρ := by with_unfolding_all rfl
theorem wp_nil {L : List PyData → Env → Prop} : Wp (dNil ρ) L = L [] ρ := by with_unfolding_all rfl
theorem wp_cons {f : Den} {g : DenL} {L : List PyData → Env → Prop} : Wp (dCons f g ρ) L = Wp (f ρ) fun d ρ => Wp (g ρ) fun ds ρ => L (d :: ds) ρ := by with_unfolding_all
  unfold dCons
  repeat (rw [wp_bind]; refine Wp.cg fun _ _ => ?_)
  first | rfl | (simp only [wp_if, wp_ok]; done) | simp only [wp_ite, wp_ok, bt_eq]
theorem wp_tup {g : DenL} : Wp (dTup g ρ) Q = Wp (g ρ) fun ds ρ => ds.length ≤ sizeLine ∧ Q (.tuple ds) ρ := by with_unfolding_all
  unfold dTup
  repeat (rw [wp_bind]; refine Wp.cg fun _ _ => ?_)
  first | rfl | (simp only [wp_if, wp_ok]; done) | simp only [wp_ite, wp_ok, bt_eq]
theorem wp_lst {g : DenL} : Wp (dLst g ρ) Q = Wp (g ρ) fun ds ρ => ds.length ≤ sizeLine ∧ Q (.list ds) ρ := by with_unfolding_all
  unfold dLst
  repeat (rw [wp_bind]; refine Wp.cg fun _ _ => ?_)
  first | rfl | (simp only [wp_if, wp_ok]; done) | simp only [wp_ite, wp_ok, bt_eq]
theorem wp_op {g : PyData → PyData → Option PyData} {fa fb : Den} : Wp (dOp g fa fb ρ) Q = Wp (fa ρ) fun a ρ => Wp (fb ρ) fun b ρ => WpO (g a b) fun d => Q d ρ := by with_unfolding_all
  unfold dOp
  rw [wp_bind]; refine Wp.cg fun a ρ => ?_
  rw [wp_bind]; refine Wp.cg fun b ρ => ?_
  cases g a b <;> rfl
theorem wp_opO {g : PyData → PyData → Option PyData} {i : Nat} {fb : Den} : Wp (dOpO g i fb ρ) Q = Wp (dVar i ρ) fun _ ρ => Wp (fb ρ) fun b ρ => Wp (dVar i ρ) fun a ρ => WpO (g a b) fun d => Q d ρ := by with_unfolding_all
  unfold dOpO
  rw [wp_bind]; refine Wp.cg fun a ρ => ?_
  rw [wp_bind]; refine Wp.cg fun b ρ => ?_
  rw [wp_bind]; refine Wp.cg fun a ρ => ?_
  cases g a b <;> rfl
theorem wp_d1 {g : PyData → Option PyData} {f : Den} : Wp (d1 g f ρ) Q = Wp (f ρ) fun a ρ => WpO (g a) fun d => Q d ρ := by with_unfolding_all
  unfold d1
  rw [wp_bind]; refine Wp.cg fun a ρ => ?_
  cases g a <;> rfl
theorem wpb {b : Bool} {K : Bool → Prop} : WpB (.bool b) K = K b := by with_unfolding_all rfl
theorem wp_B {f : Den} {T : Bool → Env → Prop} : Wp (dB f ρ) T = Wp (f ρ) fun d ρ => WpB d fun b => T b ρ := by with_unfolding_all
  unfold dB
  rw [wp_bind]; refine Wp.cg fun d ρ => ?_
  cases d <;> rfl
theorem wp_and {f g : DenB} {T : Bool → Env → Prop} : Wp (dAnd f g ρ) T = Wp (f ρ) fun b ρ => Bt b (Wp (g ρ) T) (T false ρ) := by with_unfolding_all
  unfold dAnd
  repeat (rw [wp_bind]; refine Wp.cg fun _ _ => ?_)
  first | rfl | (simp only [wp_if, wp_ok]; done) | simp only [wp_ite, wp_ok, bt_eq]
theorem wp_or {f g : DenB} {T : Bool → Env → Prop} : Wp (dOr f g ρ) T = Wp (f ρ) fun b ρ => Bt b (T true ρ) (Wp (g ρ) T) := by with_unfolding_all
  unfold dOr
  repeat (rw [wp_bind]; refine Wp.cg fun _ _ => ?_)
  first | rfl | (simp only [wp_if, wp_ok]; done) | simp only [wp_ite, wp_ok, bt_eq]
theorem wp_not {f : DenB} {T : Bool → Env → Prop} : Wp (dNot f ρ) T = Wp (f ρ) fun b ρ => T (!b) ρ := by with_unfolding_all
  unfold dNot
  repeat (rw [wp_bind]; refine Wp.cg fun _ _ => ?_)
  first | rfl | (simp only [wp_if, wp_ok]; done) | simp only [wp_ite, wp_ok, bt_eq]
theorem wp_andV {f g : Den} : Wp (dAndV f g ρ) Q = Wp (f ρ) fun d ρ => WpB d fun b => Bt b (Wp (g ρ) Q) (Q (.bool false) ρ) := by with_unfolding_all
  unfold dAndV
  rw [wp_bind]; refine Wp.cg fun d ρ => ?_
  cases d with
  | bool b => cases b <;> simp [Wp, WpB, bt_t, bt_f]
  | _ => rfl
theorem wp_orV {f g : Den} : Wp (dOrV f g ρ) Q = Wp (f ρ) fun d ρ => WpB d fun b => Bt b (Q (.bool true) ρ) (Wp (g ρ) Q) := by with_unfolding_all
  unfold dOrV
  rw [wp_bind]; refine Wp.cg fun d ρ => ?_
  cases d with
  | bool b => cases b <;> simp [Wp, WpB, bt_t, bt_f]
  | _ => rfl
theorem wp_notV {f : Den} : Wp (dNotV f ρ) Q = Wp (f ρ) fun d ρ => WpB d fun b => Q (.bool (!b)) ρ := by with_unfolding_all
  unfold dNotV
  rw [wp_bind]; refine Wp.cg fun d ρ => ?_
  cases d <;> rfl
theorem wp_ifE {c : DenB} {f g : Den} : Wp (dIf c f g ρ) Q = Wp (c ρ) fun b ρ => Bt b (Wp (f ρ) Q) (Wp (g ρ) Q) := by with_unfolding_all
  unfold dIf
  repeat (rw [wp_bind]; refine Wp.cg fun _ _ => ?_)
  first | rfl | (simp only [wp_if, wp_ok]; done) | simp only [wp_ite, wp_ok, bt_eq]
theorem wp_chain {g g' : PyData → PyData → Option PyData} {fa fb fc : Den} : Wp (dChain g g' fa fb fc ρ) Q = Wp (fa ρ) fun a ρ => Wp (fb ρ) fun b ρ => WpO (g a b) fun d => WpB d fun r => Bt r (Wp (fc ρ) fun c ρ => WpO (g' b c) fun d => Q d ρ) (Q (.bool false) ρ) := by with_unfolding_all
  unfold dChain
  rw [wp_bind]; refine Wp.cg fun a ρ => ?_
  rw [wp_bind]; refine Wp.cg fun b ρ => ?_
  cases g a b with
  | none => rfl
  | some d =>
    cases d with
    | bool r =>
      cases r with
      | true =>
        simp only [wpo_some, wpb, bt_t]
        rw [wp_bind]; refine Wp.cg fun c ρ => ?_
        cases g' b c <;> rfl
      | false => simp only [wpo_some, wpb, bt_f]; rfl
    | _ => rfl
theorem wp_im {f : Den} : Wp (dIm f ρ) Q = Wp (f ρ) fun d ρ => isMut d = false ∧ Q d ρ := by with_unfolding_all
  unfold dIm
  rw [wp_bind]; refine Wp.cg fun d ρ => ?_
  cases isMut d <;> simp [Wp]
theorem wp_neg {f : Den} : Wp (dNeg f ρ) Q = Wp (f ρ) fun d ρ => WpI d fun i => Q (.int (-i)) ρ := by with_unfolding_all
  unfold dNeg
  rw [wp_bind]; refine Wp.cg fun d ρ => ?_
  cases d <;> rfl
theorem wp_is {t : Ty} {f : Den} : Wp (dIs t f ρ) Q = Wp (f ρ) fun d ρ => Q (.bool (isT t d)) ρ := by with_unfolding_all
  unfold dIs
  repeat (rw [wp_bind]; refine Wp.cg fun _ _ => ?_)
  first | rfl | (simp only [wp_if, wp_ok]; done) | simp only [wp_ite, wp_ok, bt_eq]
theorem wp_is2 {t t' : Ty} {f : Den} : Wp (dIs2 t t' f ρ) Q = Wp (f ρ) fun d ρ => Q (.bool (isT t d || isT t' d)) ρ := by with_unfolding_all
  unfold dIs2
  repeat (rw [wp_bind]; refine Wp.cg fun _ _ => ?_)
  first | rfl | (simp only [wp_if, wp_ok]; done) | simp only [wp_ite, wp_ok, bt_eq]
/-! slices -/
theorem wp_no {K : Option Int → Env → Prop} : Wp (dNo ρ) K = K none ρ := by with_unfolding_all rfl
theorem wp_so {f : Den} {K : Option Int → Env → Prop} : Wp (dSo f ρ) K = Wp (f ρ) fun d ρ => WpI d fun i => K (some i) ρ := by with_unfolding_all
  unfold dSo
  rw [wp_bind]; refine Wp.cg fun d ρ => ?_
  cases d <;> rfl
theorem wp_sl {f : Den} {fl fh : DenO} : Wp (dSl f fl fh ρ) Q = Wp (f ρ) fun a ρ => Wp (fl ρ) fun l ρ => Wp (fh ρ) fun h ρ => WpO (gSl a l h) fun d => Q d ρ := by with_unfolding_all
  unfold dSl
  rw [wp_bind]; refine Wp.cg fun a ρ => ?_
  rw [wp_bind]; refine Wp.cg fun b ρ => ?_
  rw [wp_bind]; refine Wp.cg fun c ρ => ?_
  cases gSl a b c <;> rfl
theorem wp_slO {i : Nat} {fl fh : DenO} : Wp (dSlO i fl fh ρ) Q = Wp (dVar i ρ) fun _ ρ => Wp (fl ρ) fun l ρ => Wp (fh ρ) fun h ρ => Wp (dVar i ρ) fun a ρ => WpO (gSl a l h) fun d => Q d ρ := by with_unfolding_all
  unfold dSlO
  rw [wp_bind]; refine Wp.cg fun a ρ => ?_
  rw [wp_bind]; refine Wp.cg fun b ρ => ?_
  rw [wp_bind]; refine Wp.cg fun c ρ => ?_
  rw [wp_bind]; refine Wp.cg fun a ρ => ?_
  cases gSl a b c <;> rfl
/-! statements -/
def Nx (fl : Fl) (P : Prop) (K : Fl → Prop) : Prop := match fl with
  | .nx => P
  | .rt d => K (.rt d)
  | .bk => K .bk
  | .ct => K .ct
theorem nx_nx {P : Prop} {K : Fl → Prop} : Nx .nx P K = P := by with_unfolding_all rfl
theorem nx_rt {P : Prop} {K : Fl → Prop} {d : PyData} : Nx (.rt d) P K = K (.rt d) := by with_unfolding_all rfl
theorem nx_bk {P : Prop} {K : Fl → Prop} : Nx .bk P K = K .bk := by with_unfolding_all rfl
theorem nx_ct {P : Prop} {K : Fl → Prop} : Nx .ct P K = K .ct := by with_unfolding_all rfl
variable {S : Fl → Env → Prop}
theorem wp_skip : Wp (dSkip ρ) S = S .nx ρ := by with_unfolding_all rfl
theorem wp_seq {f g : DenS} : Wp (dSeq f g ρ) S = Wp (f ρ) fun fl ρ => Nx fl (Wp (g ρ) S) fun fl => S fl ρ := by with_unfolding_all
  unfold dSeq
  rw [wp_bind]; refine Wp.cg fun fl ρ => ?_
  cases fl <;> rfl
theorem wp_bk : Wp (dBk ρ) S = S .bk ρ := by with_unfolding_all rfl
theorem wp_ct : Wp (dCt ρ) S = S .ct ρ := by with_unfolding_all rfl
theorem wp_drop {f : Den} : Wp (dDrop f ρ) S = Wp (f ρ) fun _ ρ => S .nx ρ := by with_unfolding_all
  unfold dDrop
  repeat (rw [wp_bind]; refine Wp.cg fun _ _ => ?_)
  first | rfl | (simp only [wp_if, wp_ok]; done) | simp only [wp_ite, wp_ok, bt_eq]
theorem wp_ret {f : Den} : Wp (dRet f ρ) S = Wp (f ρ) fun d ρ => S (.rt d) ρ := by with_unfolding_all
  unfold dRet
  repeat (rw [wp_bind]; refine Wp.cg fun _ _ => ?_)
  first | rfl | (simp only [wp_if, wp_ok]; done) | simp only [wp_ite, wp_ok, bt_eq]
theorem wp_retN : Wp (dRetN ρ) S = S (.rt .none) ρ := by with_unfolding_all rfl
theorem wp_ifS {c : DenB} {f g : DenS} : Wp (dIfS c f g ρ) S = Wp (c ρ) fun b ρ => Bt b (Wp (f ρ) S) (Wp (g ρ) S) := by with_unfolding_all
  unfold dIfS
  repeat (rw [wp_bind]; refine Wp.cg fun _ _ => ?_)
  first | rfl | (simp only [wp_if, wp_ok]; done) | simp only [wp_ite, wp_ok, bt_eq]
theorem wp_never {T : α → Env → Prop} : Wp (dNever ρ) T = False := by with_unfolding_all rfl
theorem wp_set {i : Nat} {f : Den} : Wp (dSet i f ρ) S = Wp (f ρ) fun d ρ => S .nx (ρ.set i (some d)) := by with_unfolding_all
  unfold dSet
  repeat (rw [wp_bind]; refine Wp.cg fun _ _ => ?_)
  first | rfl | (simp only [wp_if, wp_ok]; done) | simp only [wp_ite, wp_ok, bt_eq]
theorem wp_setO {i : Nat} {f : Den} : Wp (dSetO i f ρ) S = Wp (f ρ) fun d ρ => isMut d = true ∧ S .nx (ρ.set i (some d)) := by with_unfolding_all
  unfold dSetO
  repeat (rw [wp_bind]; refine Wp.cg fun _ _ => ?_)
  first | rfl | (simp only [wp_if, wp_ok]; done) | simp only [wp_ite, wp_ok, bt_eq]
theorem wp_asg {f : Den} {g : PyData → Env → Option Env} : Wp (dAsg f g ρ) S = Wp (f ρ) fun d ρ => WpO (g d ρ) fun ρ => S .nx ρ := by with_unfolding_all
  unfold dAsg
  rw [wp_bind]; refine Wp.cg fun d ρ => ?_
  cases g d ρ <;> rfl
theorem wpo_name {i : Nat} {d : PyData} {K : Env → Prop} : WpO (tName i d ρ) K = K (ρ.set i (some d)) := by with_unfolding_all rfl
theorem wpo_tsnil {K : Env → Prop} : WpO (tsNil [] ρ) K = K ρ := by with_unfolding_all rfl
theorem wpo_tscons {g : PyData → Env → Option Env} {r : List PyData → Env → Option Env} {d : PyData} {ds : List PyData} {K : Env → Prop} : WpO (tsCons g r (d :: ds) ρ) K = WpO (g d ρ) fun ρ => WpO (r ds ρ) K := by with_unfolding_all
  simp only [tsCons, wpo_bind]
theorem wpo_tupl {g : List PyData → Env → Option Env} {ds : List PyData} {K : Env → Prop} : WpO (tTupl g (.tuple ds) ρ) K = WpO (g ds ρ) K := by with_unfolding_all rfl
theorem wpo_star {g : List PyData → Env → Option Env} {d : PyData} {ds : List PyData} {K : Env → Prop} : WpO (tStar g (.tuple (d :: ds)) ρ) K = WpO (g [d, .list ds] ρ) K := by with_unfolding_all rfl
def WpL (o : Option (Option PyData)) (K : List PyData → Prop) (_ : PTag K := .a) : Prop := match o with
  | some (some (.list xs)) => K xs
  | _ => False
theorem wpl {xs : List PyData} {K : List PyData → Prop} : WpL (some (some (.list xs))) K = K xs := by with_unfolding_all rfl
theorem wp_app {i : Nat} {f : Den} : Wp (dApp i f ρ) S = WpL ρ[i]? fun _ => Wp (f ρ) fun d ρ => WpL ρ[i]? fun xs => xs.length < sizeLine ∧ S .nx (ρ.set i (some (.list (xs ++ [d])))) := by with_unfolding_all
  unfold dApp
  split
  · rename_i h
    obtain ⟨ds, h⟩ := isL_get h
    rw [h, wpl, wp_bind]
    refine Wp.cg fun d ρ => ?_
    rcases e : ρ[i]? with _ | _ | d2
    · rfl
    · rfl
    · cases d2 <;> first | (simp only [wpl, wp_if, wp_ok]; done) | rfl
  · rename_i h
    rcases e : ρ[i]? with _ | _ | d2
    · rfl
    · rfl
    · cases d2 <;> first | rfl | (rw [e] at h; exact absurd rfl h)
def seqOf : PyData → Option (List PyData)
  | .list xs => some xs
  | .tuple xs => some xs
  | _ => none
theorem wp_ext {i : Nat} {f : Den} : Wp (dExt i f ρ) S = WpL ρ[i]? fun _ => Wp (f ρ) fun d ρ => WpL ρ[i]? fun xs => WpO (seqOf d) fun ys => xs.length + ys.length ≤ sizeLine ∧ S .nx (ρ.set i (some (.list (xs ++ ys)))) := by with_unfolding_all
  unfold dExt
  split
  · rename_i h
    obtain ⟨ds, h⟩ := isL_get h
    rw [h, wpl, wp_bind]
    refine Wp.cg fun d ρ => ?_
    rcases e : ρ[i]? with _ | _ | d2
    · rfl
    · rfl
    · cases d2 <;> cases d <;> first | (simp only [wpl, wp_if, wp_ok, seqOf, wpo_some]; done) | rfl
  · rename_i h
    rcases e : ρ[i]? with _ | _ | d2
    · rfl
    · rfl
    · cases d2 <;> first | rfl | (rw [e] at h; exact absurd rfl h)
theorem wp_stL {j : Nat} {fv fi : Den} : Wp (dStL j fv fi ρ) S = Wp (fv ρ) fun v ρ => Wp (dVar j ρ) fun _ ρ => Wp (fi ρ) fun i ρ => WpI i fun z => WpL ρ[j]? fun xs => WpO (ixN xs.length z) fun n => S .nx (ρ.set j (some (.list (xs.set n v)))) := by with_unfolding_all
  unfold dStL
  rw [wp_bind]; refine Wp.cg fun v ρ => ?_
  rw [wp_bind]; refine Wp.cg fun _ ρ => ?_
  rw [wp_bind]; refine Wp.cg fun i ρ => ?_
  rcases e : ρ[j]? with _ | _ | d2
  · cases i <;> rfl
  · cases i <;> rfl
  · cases d2 <;> cases i <;> first | rfl | (simp only [wpl, wpi]; cases ixN _ _ <;> rfl)
def WpD (o : Option (Option PyData)) (K : Ps → Prop) (_ : PTag K := .a) : Prop := match o with
  | some (some (.dict xs)) => K xs
  | _ => False
theorem wpd {xs : Ps} {K : Ps → Prop} : WpD (some (some (.dict xs))) K = K xs := by with_unfolding_all rfl
theorem wp_stK {j : Nat} {fv fi : Den} : Wp (dStK j fv fi ρ) S = Wp (fv ρ) fun v ρ => Wp (dVar j ρ) fun _ ρ => Wp (fi ρ) fun i ρ => WpD ρ[j]? fun ps => WpO (toKey i) fun k => isN ps = false ∧ ps.length < sizeLine ∧ S .nx (ρ.set j (some (.dict (dput ps k v)))) := by with_unfolding_all
  unfold dStK
  rw [wp_bind]; refine Wp.cg fun v ρ => ?_
  rw [wp_bind]; refine Wp.cg fun _ ρ => ?_
  rw [wp_bind]; refine Wp.cg fun i ρ => ?_
  rcases e : ρ[j]? with _ | _ | d2
  · rfl
  · rfl
  · cases d2 <;> cases h : toKey i <;> first | rfl | (simp only [wpd, wpo_some, wp_if, wp_ok, and_assoc])
def nDict : Ps → Option Ps
  | (.none, .none) :: ps => some ps
  | _ => none
theorem wp_stN {j : Nat} {fv fi : Den} : Wp (dStN j fv fi ρ) S = Wp (fv ρ) fun v ρ => Wp (dVar j ρ) fun _ ρ => Wp (fi ρ) fun i ρ => WpD ρ[j]? fun ps => WpO (nDict ps) fun ps => keyOkN i = true ∧ ps.length < sizeLine ∧ S .nx (ρ.set j (some (.dict ((.none, .none) :: nput ps i v)))) := by with_unfolding_all
  unfold dStN
  rw [wp_bind]; refine Wp.cg fun v ρ => ?_
  rw [wp_bind]; refine Wp.cg fun _ ρ => ?_
  rw [wp_bind]; refine Wp.cg fun i ρ => ?_
  split
  · rename_i ps h1
    simp only [h1, wpd, nDict, wpo_some, wp_if, wp_ok, and_assoc]
  · rename_i h
    rcases e : ρ[j]? with _ | _ | d2
    · rfl
    · rfl
    · cases d2 with
      | dict ps =>
        rw [wpd]
        unfold nDict
        split
        · exact absurd e (h _)
        · rfl
      | _ => rfl
/-! what is walked -/
theorem wp_items {f : Den} {L : List PyData → Env → Prop} : Wp (dItems f ρ) L = Wp (f ρ) fun d ρ => WpO (seqOf d) fun ds => L ds ρ := by with_unfolding_all
  unfold dItems
  rw [wp_bind]; refine Wp.cg fun d ρ => ?_
  cases d <;> rfl
theorem wp_signs {f : Den} {L : List PyData → Env → Prop} : Wp (dSigns f ρ) L = Wp (f ρ) fun d ρ => WpS d fun x => L (signs x) ρ := by with_unfolding_all
  unfold dSigns
  rw [wp_bind]; refine Wp.cg fun d ρ => ?_
  cases d <;> rfl
theorem wp_rng1 {f : Den} {L : List PyData → Env → Prop} : Wp (dRng1 f ρ) L = Wp (f ρ) fun d ρ => WpI d fun j => (-(2 ^ 62) ≤ j ∧ j < 2 ^ 62) ∧ L (rngD 0 j.toNat) ρ := by with_unfolding_all
  unfold dRng1
  rw [wp_bind]; refine Wp.cg fun d ρ => ?_
  cases d with
  | int j => simp only [wp_if, wp_ok, wpi]
  | _ => rfl
theorem wp_rng2 {f g : Den} {L : List PyData → Env → Prop} : Wp (dRng2 f g ρ) L = Wp (f ρ) fun a ρ => Wp (g ρ) fun b ρ => WpI a fun i => WpI b fun j => (-(2 ^ 62) ≤ i ∧ i < 2 ^ 62 ∧ -(2 ^ 62) ≤ j ∧ j < 2 ^ 62) ∧ L (rngD i (j - i).toNat) ρ := by with_unfolding_all
  unfold dRng2
  rw [wp_bind]; refine Wp.cg fun a ρ => ?_
  rw [wp_bind]; refine Wp.cg fun b ρ => ?_
  cases a <;> cases b <;> first | (simp only [wp_if, wp_ok, wpi]; done) | rfl
def zipOf : PyData → PyData → Option (List PyData)
  | .list xs, .list ys => some (zipD xs ys)
  | .tuple xs, .tuple ys => some (zipD xs ys)
  | _, _ => none
theorem wp_zip {f g : Den} {L : List PyData → Env → Prop} : Wp (dZip f g ρ) L = Wp (f ρ) fun a ρ => Wp (g ρ) fun b ρ => WpO (zipOf a b) fun ds => L ds ρ := by with_unfolding_all
  unfold dZip
  rw [wp_bind]; refine Wp.cg fun a ρ => ?_
  rw [wp_bind]; refine Wp.cg fun b ρ => ?_
  cases a <;> cases b <;> rfl
theorem wp_enum {f : Den} {L : List PyData → Env → Prop} : Wp (dEnum f ρ) L = Wp (f ρ) fun d ρ => WpO (seqOf d) fun ds => L (enumD ds) ρ := by with_unfolding_all
  unfold dEnum
  rw [wp_bind]; refine Wp.cg fun d ρ => ?_
  cases d <;> rfl
theorem wp_for_ {it : DenL} {g : PyData → Env → Option Env} {body : DenS} : Wp (dFor it g body ρ) S = Wp (it ρ) fun ds ρ => Wp (forLoop g body ds ρ) S := by with_unfolding_all
  unfold dFor; rw [wp_bind]
theorem wp_lc_ {it : DenL} {g : PyData → Env → Option Env} {tt : DenB} {te : Den} {vs : List Nat} : Wp (dLC it g tt te vs ρ) Q = Wp (it ρ) fun ds ρ => Wp (lcAll g tt te vs ds ρ) Q := by with_unfolding_all
  unfold dLC; rw [wp_bind]
/-! calls -/
theorem wp_call {F : FDen} {g : DenL} : Wp (dCall F g ρ) Q = Wp (g ρ) fun ds ρ => WpF (F ds) fun d _ => Q d ρ := by with_unfolding_all
  unfold dCall
  rw [wp_bind]; refine Wp.cg fun ds ρ => ?_
  cases F ds <;> rfl
def WpC (o : Option (Option PyData)) (K : PyData → Prop) (_ : PTag K := .a) : Prop := match o with
  | some (some d) => K d
  | _ => False
theorem wpc {d : PyData} {K : PyData → Prop} : WpC (some (some d)) K = K d := by with_unfolding_all rfl
theorem wp_callP {F : FDen} {j : Nat} {g : DenL} : Wp (dCallP F j g ρ) Q = Wp (dVar j ρ) fun _ ρ => Wp (g ρ) fun ds ρ => WpC ρ[j]? fun d0 => WpF (F (d0 :: ds)) fun d ps => WpO ps.head? fun d1 => Q d (ρ.set j (some d1)) := by with_unfolding_all
  unfold dCallP
  rw [wp_bind]; refine Wp.cg fun _ ρ => ?_
  rw [wp_bind]; refine Wp.cg fun ds ρ => ?_
  split
  · rename_i d0 h
    simp only [h, wpc]
    cases F (d0 :: ds) with
    | ok d ps => cases ps <;> rfl
    | exc e ps => cases ps <;> rfl
    | bad => rfl
  · rename_i h
    unfold WpC
    split
    · rename_i h2; exact absurd h2 (h _)
    · rfl
theorem wp_take {i : Nat} : Wp (dTake i ρ) Q = WpC ρ[i]? fun d => isMut d = true ∧ Q d (ρ.set i none) := by with_unfolding_all
  unfold dTake
  split
  · rename_i d h
    simp only [h, wpc, wp_if, wp_ok]
  · rename_i h
    unfold WpC
    split
    · rename_i h2; exact absurd h2 (h _)
    · rfl
/-! a def -/
theorem wpf_body {n : Nat} {ms : List Md} {body : DenS} {ds : List PyData} {R : PyData → List PyData → Prop} : WpF (runBody n ms body ds) R = (ds.length = ms.length ∧ Wp (body (ds.map some ++ List.replicate (n - ds.length) none)) fun fl ρ => WpO (outs ms ds ρ) fun ps => match fl with | .rt d => R d ps | .nx => R .none ps | _ => False) := by with_unfolding_all
  unfold runBody
  split
  · rename_i h
    simp only [h, true_and]
    cases body (ds.map some ++ List.replicate (n - ms.length) none) with
    | bad => rfl
    | exc e ρ => dsimp only; cases outs ms ds ρ <;> rfl
    | ok fl ρ =>
      cases fl with
      | rt d => dsimp only; cases e : outs ms ds ρ <;> simp [Wp, WpF, WpO, e]
      | nx => dsimp only; cases e : outs ms ds ρ <;> simp [Wp, WpF, WpO, e]
      | bk => dsimp only; cases e : outs ms ds ρ <;> simp [Wp, WpF, WpO, e]
      | ct => dsimp only; cases e : outs ms ds ρ <;> simp [Wp, WpF, WpO, e]
  · rename_i h
    simp [h, WpF]
end
end PD

set_option Elab.async false
set_option linter.all false
set_option maxRecDepth 100000
set_option maxHeartbeats 1000000
set_option autoImplicit false
namespace PD
open PySem L2 PySem.Spec

/-! ### loops -/
/-- what a turn of a loop must show -/
def Turn (S : Fl → Env → Prop) (N : Env → Prop) : Fl → Env → Prop
  | .nx, ρ => N ρ
  | .ct, ρ => N ρ
  | .bk, ρ => S .nx ρ
  | .rt v, ρ => S (.rt v) ρ
section
variable {τ : Type} {e : τ → PyData} {xs : List τ} {ρ : Env} {S : Fl → Env → Prop} {Q : PyData → Env → Prop} {g : PyData → Env → Option Env} {tt : DenB} {te : Den} {vs : List Nat}
theorem turn_nx {N : Env → Prop} : Turn S N .nx ρ = N ρ := by with_unfolding_all rfl
theorem turn_ct {N : Env → Prop} : Turn S N .ct ρ = N ρ := by with_unfolding_all rfl
theorem turn_bk {N : Env → Prop} : Turn S N .bk ρ = S .nx ρ := by with_unfolding_all rfl
theorem turn_rt {N : Env → Prop} {v : PyData} : Turn S N (.rt v) ρ = S (.rt v) ρ := by with_unfolding_all rfl
theorem wp_for_at {body : DenS} (I : List τ → Env → Prop) : ∀ (post pre : List τ) (ρ : Env), I pre ρ →
    (∀ pre' x post' ρ, pre ++ post = pre' ++ x :: post' → I pre' ρ → WpO (g (e x) ρ) fun ρ1 => Wp (body ρ1) (Turn S (I (pre' ++ [x])))) →
    (∀ ρ, I (pre ++ post) ρ → S .nx ρ) → Wp (forLoop g body (post.map e) ρ) S
  | [], pre, ρ, h0, _, fin => by with_unfolding_all exact fin ρ (by simpa using h0)
  | x :: post, pre, ρ, h0, step, fin => by with_unfolding_all
    have h := step pre x post ρ rfl h0
    show Wp (forLoop g body (e x :: post.map e) ρ) S
    unfold forLoop
    cases hg : g (e x) ρ with
    | none => rw [hg] at h; exact h
    | some ρ1 =>
      rw [hg] at h
      have h : Wp (body ρ1) (Turn S (I (pre ++ [x]))) := h
      have again : ∀ ρ2, I (pre ++ [x]) ρ2 → Wp (forLoop g body (post.map e) ρ2) S := fun ρ2 h2 =>
        wp_for_at I post (pre ++ [x]) ρ2 h2 (fun pre' y post' ρ q hI => step pre' y post' ρ (by rw [← q]; simp) hI) fun ρ hI => fin ρ (by simpa using hI)
      dsimp only
      cases hb : body ρ1 with
      | bad => rw [hb] at h; exact h
      | exc c ρ2 => rw [hb] at h; exact h
      | ok fl ρ2 =>
        rw [hb] at h
        have h : Turn S (I (pre ++ [x])) fl ρ2 := h
        cases fl with
        | nx => exact again ρ2 h
        | ct => exact again ρ2 h
        | bk => exact h
        | rt v => exact h
theorem wp_for {body : DenS} (I : List τ → Env → Prop) (h0 : I [] ρ) (step : ∀ pre x post ρ, xs = pre ++ x :: post → I pre ρ → WpO (g (e x) ρ) fun ρ1 => Wp (body ρ1) (Turn S (I (pre ++ [x]))))
    (fin : ∀ ρ, I xs ρ → S .nx ρ) : Wp (forLoop g body (xs.map e) ρ) S := wp_for_at I xs [] ρ h0 step fin
/-- while: a number that falls -/
theorem wp_while {c : DenB} {body : DenS} (I : Nat → Env → Prop) : ∀ (n m : Nat) (ρ : Env), m < n → I m ρ →
    (∀ m ρ, I m ρ → Wp (c ρ) fun b ρ1 => (b = true → Wp (body ρ1) (Turn S fun ρ2 => ∃ m', m' < m ∧ I m' ρ2)) ∧ (¬ b = true → S .nx ρ1)) → Wp (whileLoop c body n ρ) S
  | 0, _, _, h, _, _ => absurd h (Nat.not_lt_zero _)
  | n + 1, m, ρ, h, hI, step => by with_unfolding_all
    unfold whileLoop
    rw [wp_bind]
    refine (step m ρ hI).imp fun b ρ1 hb => ?_
    cases b with
    | false => exact hb.2 (by simp)
    | true =>
      have h2 := hb.1 rfl
      rw [if_pos rfl]
      cases hq : body ρ1 with
      | bad => rw [hq] at h2; exact h2
      | exc c ρ2 => rw [hq] at h2; exact h2
      | ok fl ρ2 =>
        rw [hq] at h2
        have h2 : Turn S (fun ρ2 => ∃ m', m' < m ∧ I m' ρ2) fl ρ2 := h2
        cases fl with
        | nx => obtain ⟨m', hm, hI'⟩ := h2; exact wp_while I n m' ρ2 (by omega) hI' step
        | ct => obtain ⟨m', hm, hI'⟩ := h2; exact wp_while I n m' ρ2 (by omega) hI' step
        | bk => exact h2
        | rt v => exact h2

/-! ### comprehensions -/
def Agree (ρ ρb : Env) (vs : List Nat) : Prop := ρb.length = ρ.length ∧ ∀ i ∈ vs, ρb[i]? = ρ[i]?
theorem Agree.rfl' {vs : List Nat} : Agree ρ ρ vs := ⟨rfl, fun _ _ => rfl⟩
theorem wipeE_out {ρ : Env} {i : Nat} : ∀ {vs : List Nat}, i ∉ vs → (wipeE ρ vs)[i]? = ρ[i]?
  | [], _ => rfl
  | v :: vs, h => by with_unfolding_all
    simp only [List.mem_cons, not_or] at h
    unfold wipeE
    rw [List.getElem?_set_ne (fun q => h.1 q.symm)]
    exact wipeE_out h.2
theorem unwipe_wipe {ρ ρb : Env} {vs : List Nat} (h : Agree ρ ρb vs) : unwipe ρ (wipeE ρb vs) vs = ρb := by with_unfolding_all
  apply List.ext_getElem?
  intro i
  unfold unwipe
  rw [wipeE_length, List.getElem?_map]
  by_cases hi : i < ρb.length
  · rw [List.getElem?_range hi]
    show some (if i ∈ vs then (ρ[i]?).getD none else ((wipeE ρb vs)[i]?).getD none) = _
    by_cases hv : i ∈ vs
    · rw [if_pos hv, ← h.2 i hv, List.getElem?_eq_getElem hi]; rfl
    · rw [if_neg hv, wipeE_out hv, List.getElem?_eq_getElem hi]; rfl
  · rw [List.getElem?_eq_none (by simpa using hi), List.getElem?_eq_none (by omega)]; rfl
theorem lc_at (I : List τ → List PyData → Env → Prop) : ∀ (post pre : List τ) (acc : List PyData) (ρb : Env), I pre acc ρb →
    (∀ pre' x post' acc ρb, pre ++ post = pre' ++ x :: post' → I pre' acc ρb → WpO (g (e x) (wipeE ρb vs)) fun ρ1 => Wp (tt ρ1) fun b ρ2 =>
      (b = true → Wp (te ρ2) fun y ρ3 => ∃ ρb', wipeE ρ3 vs = wipeE ρb' vs ∧ I (pre' ++ [x]) (acc ++ [y]) ρb') ∧ (¬ b = true → ∃ ρb', wipeE ρ2 vs = wipeE ρb' vs ∧ I (pre' ++ [x]) acc ρb')) →
    ∃ ys ρb', lcLoop g tt te vs (post.map e) (wipeE ρb vs) = .ok ys (wipeE ρb' vs) ∧ I (pre ++ post) (acc ++ ys) ρb'
  | [], pre, acc, ρb, h0, _ => ⟨[], ρb, rfl, by simpa using h0⟩
  | x :: post, pre, acc, ρb, h0, step => by with_unfolding_all
    have h := step pre x post acc ρb rfl h0
    have next : ∀ acc' ρ', I (pre ++ [x]) acc' ρ' → ∃ ys ρb', lcLoop g tt te vs (post.map e) (wipeE ρ' vs) = .ok ys (wipeE ρb' vs) ∧ I (pre ++ x :: post) (acc' ++ ys) ρb' := fun acc' ρ' h2 => by with_unfolding_all
      obtain ⟨ys, ρb', h3, h4⟩ := lc_at I post (pre ++ [x]) acc' ρ' h2 fun pre' y post' acc ρb q hI => step pre' y post' acc ρb (by rw [← q]; simp) hI
      exact ⟨ys, ρb', h3, by simpa using h4⟩
    show ∃ ys ρb', lcLoop g tt te vs (e x :: post.map e) (wipeE ρb vs) = _ ∧ _
    unfold lcLoop
    cases hg : g (e x) (wipeE ρb vs) with
    | none => rw [hg] at h; exact h.elim
    | some ρ1 =>
      rw [hg] at h
      have h : Wp (tt ρ1) _ := h
      dsimp only
      cases ht : tt ρ1 with
      | bad => rw [ht] at h; exact h.elim
      | exc c ρ2 => rw [ht] at h; exact h.elim
      | ok b ρ2 =>
        rw [ht] at h
        cases b with
        | false =>
          obtain ⟨ρb', q, hI⟩ := h.2 (by simp)
          dsimp only
          rw [q]
          exact next _ _ hI
        | true =>
          have h2 := h.1 rfl
          dsimp only
          cases hy : te ρ2 with
          | bad => rw [hy] at h2; exact h2.elim
          | exc c ρ3 => rw [hy] at h2; exact h2.elim
          | ok y ρ3 =>
            rw [hy] at h2
            rw [wp_ok] at h2
            obtain ⟨ρb', q, hI⟩ := h2
            obtain ⟨ys, ρb2, h3, h4⟩ := next _ _ hI
            dsimp only
            rw [q, h3]
            exact ⟨y :: ys, ρb2, rfl, by simpa using h4⟩
theorem wp_lcI (I : List τ → List PyData → Env → Prop) (h0 : I [] [] ρ) (step : ∀ pre x post acc ρb, xs = pre ++ x :: post → I pre acc ρb → WpO (g (e x) (wipeE ρb vs)) fun ρ1 => Wp (tt ρ1) fun b ρ2 =>
      (b = true → Wp (te ρ2) fun y ρ3 => ∃ ρb', wipeE ρ3 vs = wipeE ρb' vs ∧ I (pre ++ [x]) (acc ++ [y]) ρb') ∧ (¬ b = true → ∃ ρb', wipeE ρ2 vs = wipeE ρb' vs ∧ I (pre ++ [x]) acc ρb'))
    (fin : ∀ acc ρb, I xs acc ρb → acc.length ≤ sizeLine ∧ Agree ρ ρb vs ∧ Q (.list acc) ρb) : Wp (lcAll g tt te vs (xs.map e) ρ) Q := by with_unfolding_all
  obtain ⟨ys, ρb', h3, h4⟩ := lc_at I xs [] [] ρ h0 step
  unfold lcAll
  rw [h3]
  obtain ⟨h5, h6, h7⟩ := fin _ _ h4
  dsimp only
  rw [if_pos (by simpa using h5), unwipe_wipe h6]
  simpa [wp_ok] using h7
/-- [f(x) for x in xs] -/
theorem wp_lcM (f : τ → PyData) (h : ∀ x ∈ xs, WpO (g (e x) (wipeE ρ vs)) fun ρ1 => Wp (te ρ1) fun y ρ3 => y = f x ∧ wipeE ρ3 vs = wipeE ρ vs) (hl : xs.length ≤ sizeLine) (k : Q (.list (xs.map f)) ρ) : Wp (lcAll g dYes te vs (xs.map e) ρ) Q := by with_unfolding_all
  refine wp_lcI (fun pre acc ρb => ρb = ρ ∧ acc = pre.map f) ⟨rfl, rfl⟩ (fun pre x post acc ρb q hI => ?_) fun acc ρb hI => ?_
  · obtain ⟨rfl, rfl⟩ := hI
    refine (h x (by rw [q]; simp)).imp fun ρ1 h1 => ⟨fun _ => h1.imp fun y ρ3 h3 => ⟨_, h3.2, rfl, by rw [h3.1]; simp⟩, fun z => absurd rfl z⟩
  · obtain ⟨rfl, rfl⟩ := hI
    exact ⟨by simpa using hl, Agree.rfl', k⟩
/-- [f(x) for x in xs if p(x)] -/
theorem wp_lcF (p : τ → Bool) (f : τ → PyData) (h : ∀ x ∈ xs, WpO (g (e x) (wipeE ρ vs)) fun ρ1 => Wp (tt ρ1) fun b ρ2 => b = p x ∧ (p x = true → Wp (te ρ2) fun y ρ3 => y = f x ∧ wipeE ρ3 vs = wipeE ρ vs) ∧ (¬ p x = true → wipeE ρ2 vs = wipeE ρ vs)) (hl : xs.length ≤ sizeLine) (k : Q (.list ((xs.filter p).map f)) ρ) : Wp (lcAll g tt te vs (xs.map e) ρ) Q := by with_unfolding_all
  refine wp_lcI (fun pre acc ρb => ρb = ρ ∧ acc = (pre.filter p).map f) ⟨rfl, rfl⟩ (fun pre x post acc ρb q hI => ?_) fun acc ρb hI => ?_
  · obtain ⟨rfl, rfl⟩ := hI
    refine (h x (by rw [q]; simp)).imp fun ρ1 h1 => h1.imp fun b ρ2 h2 => ?_
    obtain ⟨rfl, h3, h4⟩ := h2
    refine ⟨fun z => (h3 z).imp fun y ρ3 h5 => ⟨_, h5.2, rfl, ?_⟩, fun z => ⟨_, h4 z, rfl, ?_⟩⟩
    · rw [h5.1]; simp [List.filter_cons, z]
    · simp [List.filter_cons, z]
  · obtain ⟨rfl, rfl⟩ := hI
    exact ⟨by simpa using Nat.le_trans (List.length_filter_le _ _) hl, Agree.rfl', k⟩
/-- [f(x, y) for x in xs for y in F(x) if p(x, y)] -/
theorem wp_lc2 {it : DenL} {it1 : DenL} {g1 : PyData → Env → Option Env} {tt1 : DenB} {vs1 : List Nat} {υ : Type} {e1 : υ → PyData} (F : τ → List υ) (p : τ → υ → Bool) (f : τ → υ → PyData) (hi : Wp (it ρ) fun ds ρ' => ds = xs.map e ∧ ρ' = ρ)
    (h : ∀ x ∈ xs, WpO (g (e x) (wipeE ρ vs)) fun ρ1 => Wp (tt ρ1) fun b ρ2 => b = true ∧ Wp (it1 ρ2) fun ds1 ρ3 => ds1 = (F x).map e1 ∧ wipeE ρ3 vs = wipeE ρ vs ∧ wipeE (wipeE ρ3 vs1) vs = wipeE ρ vs ∧ ∀ y ∈ F x, WpO (g1 (e1 y) (wipeE ρ3 vs1)) fun ρ4 => Wp (tt1 ρ4) fun b ρ5 => b = p x y ∧
      (p x y = true → Wp (te ρ5) fun z ρ6 => z = f x y ∧ wipeE ρ6 vs1 = wipeE ρ3 vs1) ∧ (¬ p x y = true → wipeE ρ5 vs1 = wipeE ρ3 vs1))
    (hl : (xs.flatMap fun x => ((F x).filter (p x)).map (f x)).length ≤ sizeLine) (k : Q (.list (xs.flatMap fun x => ((F x).filter (p x)).map (f x))) ρ) : Wp (dLC2 it g tt it1 g1 tt1 te vs vs1 ρ) Q := by with_unfolding_all
  have key : ∀ zs : List τ, (∀ x ∈ zs, x ∈ xs) → lc2Loop g tt it1 g1 tt1 te vs vs1 (zs.map e) (wipeE ρ vs) = .ok (zs.flatMap fun x => ((F x).filter (p x)).map (f x)) (wipeE ρ vs) := by with_unfolding_all
    intro zs
    induction zs with
    | nil => intro _; rfl
    | cons x zs ih =>
      intro hz
      have hx := h x (hz x (by simp))
      have ih := ih fun y hy => hz y (by simp [hy])
      show lc2Loop g tt it1 g1 tt1 te vs vs1 (e x :: zs.map e) (wipeE ρ vs) = _
      unfold lc2Loop
      cases hg : g (e x) (wipeE ρ vs) with
      | none => rw [hg] at hx; exact hx.elim
      | some ρ1 =>
        rw [hg] at hx
        have hx : Wp (tt ρ1) _ := hx
        dsimp only
        cases ht : tt ρ1 with
        | bad => rw [ht] at hx; exact hx.elim
        | exc c ρ2 => rw [ht] at hx; exact hx.elim
        | ok b ρ2 =>
          rw [ht] at hx
          rw [wp_ok] at hx
          obtain ⟨rfl, hx⟩ := hx
          dsimp only
          cases h1 : it1 ρ2 with
          | bad => rw [h1] at hx; exact hx.elim
          | exc c ρ3 => rw [h1] at hx; exact hx.elim
          | ok ds1 ρ3 =>
            rw [h1] at hx
            rw [wp_ok] at hx
            obtain ⟨rfl, hw, hw2, hy⟩ := hx
            dsimp only
            obtain ⟨ys, ρb', h3, h4⟩ := lc_at (e := e1) (g := g1) (tt := tt1) (te := te) (vs := vs1) (fun pre acc ρb => wipeE ρb vs1 = wipeE ρ3 vs1 ∧ acc = (pre.filter (p x)).map (f x)) (F x) [] [] ρ3 ⟨rfl, rfl⟩ (fun pre y post acc ρb q hI => by with_unfolding_all
              obtain ⟨hI1, rfl⟩ := hI
              rw [hI1]
              refine (hy y (by rw [show F x = pre ++ y :: post from q]; simp)).imp fun ρ4 h4 => h4.imp fun b ρ5 h5 => ?_
              obtain ⟨rfl, h6, h7⟩ := h5
              refine ⟨fun z => (h6 z).imp fun y ρ6 h8 => ⟨ρ6, rfl, h8.2, ?_⟩, fun z => ⟨ρ5, rfl, h7 z, ?_⟩⟩
              · rw [h8.1]; simp [List.filter_cons, z]
              · simp [List.filter_cons, z])
            rw [h3]
            dsimp only
            rw [h4.1, hw2, ih]
            dsimp only
            rw [List.flatMap_cons]
            have := h4.2
            simp only [List.nil_append] at this
            rw [this]
  unfold dLC2
  rw [wp_bind]
  refine hi.imp fun ds ρ' hd => ?_
  obtain ⟨rfl, rfl⟩ := hd
  rw [key xs fun _ h => h]
  dsimp only
  rw [if_pos hl, unwipe_wipe Agree.rfl']
  exact k
/-- {k(x): v(x) for x in xs}, any way of putting -/
theorem wp_dc {put : Put} {d0 : PyData} {it : DenL} {tk tv : Den} {δ : Type} (enc : δ → PyData) (st : δ → τ → δ) (b0 : δ) (len : δ → Nat) (hi : Wp (it ρ) fun ds ρ' => ds = xs.map e ∧ ρ' = ρ) (h0 : enc b0 = d0) (hl0 : len b0 = 0)
    (h : ∀ x ∈ xs, ∀ acc, len acc < xs.length → WpO (g (e x) (wipeE ρ vs)) fun ρ1 => Wp (tk ρ1) fun y ρ2 => Wp (tv ρ2) fun z ρ3 => wipeE ρ3 vs = wipeE ρ vs ∧ put (enc acc) y z = some (enc (st acc x)) ∧ len (st acc x) ≤ len acc + 1)
    (k : Q (enc (xs.foldl st b0)) ρ) : Wp (dDC put d0 it g dYes tk tv vs ρ) Q := by with_unfolding_all
  have key : ∀ (zs : List τ) (acc : δ), (∀ x ∈ zs, x ∈ xs) → len acc + zs.length ≤ xs.length → dcLoop g dYes tk tv put vs (zs.map e) (enc acc) (wipeE ρ vs) = .ok (enc (zs.foldl st acc)) (wipeE ρ vs) := by with_unfolding_all
    intro zs
    induction zs with
    | nil => intro _ _ _; rfl
    | cons x zs ih =>
      intro acc hz hlen
      have hlen : len acc + (zs.length + 1) ≤ xs.length := hlen
      have hx := h x (hz x (by simp)) acc (by omega)
      show dcLoop g dYes tk tv put vs (e x :: zs.map e) (enc acc) (wipeE ρ vs) = _
      unfold dcLoop
      cases hg : g (e x) (wipeE ρ vs) with
      | none => rw [hg] at hx; exact hx.elim
      | some ρ1 =>
        rw [hg] at hx
        have hx : Wp (tk ρ1) _ := hx
        dsimp only [dYes]
        cases ht : tk ρ1 with
        | bad => rw [ht] at hx; exact hx.elim
        | exc c ρ2 => rw [ht] at hx; exact hx.elim
        | ok y ρ2 =>
          rw [ht] at hx
          have hx : Wp (tv ρ2) _ := hx
          dsimp only
          cases hv : tv ρ2 with
          | bad => rw [hv] at hx; exact hx.elim
          | exc c ρ3 => rw [hv] at hx; exact hx.elim
          | ok z ρ3 =>
            rw [hv] at hx
            rw [wp_ok] at hx
            obtain ⟨h1, h2, h3⟩ := hx
            dsimp only
            rw [h2]
            dsimp only
            rw [h1]
            exact ih _ (fun y hy => hz y (by simp [hy])) (by omega)
  unfold dDC
  rw [wp_bind]
  refine hi.imp fun ds ρ' hd => ?_
  obtain ⟨rfl, rfl⟩ := hd
  rw [← h0, key xs b0 (fun _ h => h) (by omega)]
  dsimp only
  rw [unwipe_wipe Agree.rfl']
  exact k
/-- len of a set comprehension -/
theorem wp_lsc {it : DenL} {tk : Den} (f : τ → Key) (hi : Wp (it ρ) fun ds ρ' => ds = xs.map e ∧ ρ' = ρ) (h : ∀ x ∈ xs, WpO (g (e x) (wipeE ρ vs)) fun ρ1 => Wp (tk ρ1) fun y ρ2 => toKey y = some (f x) ∧ wipeE ρ2 vs = wipeE ρ vs) (hl : xs.length + 1 < scanBound)
    (k : Q (.int ((xs.foldl (fun acc x => addK acc (f x)) []).length : Int)) ρ) : Wp (dLenSC it g dYes tk vs ρ) Q := by with_unfolding_all
  have hadd : ∀ (acc : List Key) (k : Key), (addK acc k).length ≤ acc.length + 1 := fun acc k => by with_unfolding_all
    unfold addK
    split <;> simp
  have key : ∀ (zs : List τ) (acc : List Key), (∀ x ∈ zs, x ∈ xs) → acc.length + zs.length ≤ xs.length → scLoop g dYes tk vs (zs.map e) acc (wipeE ρ vs) = .ok (zs.foldl (fun acc x => addK acc (f x)) acc) (wipeE ρ vs) ∧ (zs.foldl (fun acc x => addK acc (f x)) acc).length ≤ xs.length := by with_unfolding_all
    intro zs
    induction zs with
    | nil => intro acc _ hl; exact ⟨rfl, by simpa using hl⟩
    | cons x zs ih =>
      intro acc hz hlen
      have hlen : acc.length + (zs.length + 1) ≤ xs.length := hlen
      have hx := h x (hz x (by simp))
      have ih := ih (addK acc (f x)) (fun y hy => hz y (by simp [hy])) (by have := hadd acc (f x); omega)
      refine ⟨?_, ih.2⟩
      show scLoop g dYes tk vs (e x :: zs.map e) acc (wipeE ρ vs) = _
      unfold scLoop
      cases hg : g (e x) (wipeE ρ vs) with
      | none => rw [hg] at hx; exact hx.elim
      | some ρ1 =>
        rw [hg] at hx
        have hx : Wp (tk ρ1) _ := hx
        dsimp only [dYes]
        cases ht : tk ρ1 with
        | bad => rw [ht] at hx; exact hx.elim
        | exc c ρ2 => rw [ht] at hx; exact hx.elim
        | ok y ρ2 =>
          rw [ht] at hx
          rw [wp_ok] at hx
          obtain ⟨h1, h2⟩ := hx
          dsimp only
          rw [h1]
          dsimp only
          rw [if_pos (by omega), h2]
          exact ih.1
  unfold dLenSC
  rw [wp_bind]
  refine hi.imp fun ds ρ' hd => ?_
  obtain ⟨rfl, rfl⟩ := hd
  obtain ⟨k1, k2⟩ := key xs [] (fun _ h => h) (by simp)
  rw [k1]
  dsimp only
  rw [if_pos (by omega), unwipe_wipe Agree.rfl']
  exact k
end
end PD

set_option Elab.async false
set_option linter.all false
set_option maxRecDepth 100000
set_option maxHeartbeats 1000000
set_option autoImplicit false
namespace PD
open PySem L2 PySem.Spec
/-! ### operations -/
section
variable {K : PyData → Prop} {ρ : Env}
theorem wpo_gI {C : Int → Int → Prop} [∀ i j, Decidable (C i j)] {f : Int → Int → PyData} {i j : Int} : WpO (gI C f (.int i) (.int j)) K = (C i j ∧ K (f i j)) := by with_unfolding_all
  show WpO (if C i j then some (f i j) else none) K = _
  rw [wpo_if]; rfl
theorem wpo_gI0 {f : Int → Int → PyData} {i j : Int} : WpO (gI0 f (.int i) (.int j)) K = K (f i j) := by with_unfolding_all rfl
theorem wpo_addI {i j : Int} : WpO (oAdd (.int i) (.int j)) K = K (.int (i + j)) := by with_unfolding_all rfl
theorem wpo_addS {x y : Str} : WpO (oAdd (.str x) (.str y)) K = (x.length + y.length ≤ sizeLine ∧ K (.str (x ++ y))) := by with_unfolding_all
  show WpO (if _ then _ else none) K = _
  rw [wpo_if]; rfl
theorem wpo_addL {x y : List PyData} : WpO (oAdd (.list x) (.list y)) K = (x.length + y.length ≤ sizeLine ∧ K (.list (x ++ y))) := by with_unfolding_all
  show WpO (if _ then _ else none) K = _
  rw [wpo_if]; rfl
theorem wpo_addT {x y : List PyData} : WpO (oAdd (.tuple x) (.tuple y)) K = (x.length + y.length ≤ sizeLine ∧ K (.tuple (x ++ y))) := by with_unfolding_all
  show WpO (if _ then _ else none) K = _
  rw [wpo_if]; rfl
theorem wpo_eq {a b : PyData} : WpO (gEq a b) K = (okD a = true ∧ okD b = true ∧ K (.bool (PyData.eqv a b))) := by with_unfolding_all
  unfold gEq
  rw [wpo_if, Bool.and_eq_true, and_assoc]; rfl
theorem wpo_ne {a b : PyData} : WpO (gNe a b) K = (okD a = true ∧ okD b = true ∧ K (.bool (!PyData.eqv a b))) := by with_unfolding_all
  unfold gNe
  rw [wpo_if, Bool.and_eq_true, and_assoc]; rfl
theorem wpo_inL {a : PyData} {xs : List PyData} : WpO (gIn a (.list xs)) K = (okD a = true ∧ okD (.list xs) = true ∧ K (.bool (xs.any fun y => PyData.eqv y a))) := by with_unfolding_all
  show WpO (if _ then _ else none) K = _
  rw [wpo_if, Bool.and_eq_true, and_assoc]; rfl
theorem wpo_inT {a : PyData} {xs : List PyData} : WpO (gIn a (.tuple xs)) K = (okD a = true ∧ okD (.tuple xs) = true ∧ K (.bool (xs.any fun y => PyData.eqv y a))) := by with_unfolding_all
  show WpO (if _ then _ else none) K = _
  rw [wpo_if, Bool.and_eq_true, and_assoc]; rfl
theorem wpo_ninL {a : PyData} {xs : List PyData} : WpO (gNotIn a (.list xs)) K = (okD a = true ∧ okD (.list xs) = true ∧ K (.bool (!xs.any fun y => PyData.eqv y a))) := by with_unfolding_all
  show WpO (if _ then _ else none) K = _
  rw [wpo_if, Bool.and_eq_true, and_assoc]; rfl
theorem wpo_ninT {a : PyData} {xs : List PyData} : WpO (gNotIn a (.tuple xs)) K = (okD a = true ∧ okD (.tuple xs) = true ∧ K (.bool (!xs.any fun y => PyData.eqv y a))) := by with_unfolding_all
  show WpO (if _ then _ else none) K = _
  rw [wpo_if, Bool.and_eq_true, and_assoc]; rfl
theorem wpo_inS {x y : Str} : WpO (gInS (.str x) (.str y)) K = K (.bool (!(Builtin.Str.occurrences y x 0 y.length 1).isEmpty)) := by with_unfolding_all rfl
theorem wpo_isN {a : PyData} : WpO (gIsN a .none) K = K (.bool (isNn a)) := by with_unfolding_all rfl
theorem wpo_notN {a : PyData} : WpO (gNotN a .none) K = K (.bool (!isNn a)) := by with_unfolding_all rfl
theorem wpo_lenL {xs : List PyData} : WpO (gLen (.list xs)) K = K (.int xs.length) := by with_unfolding_all rfl
theorem wpo_lenT {xs : List PyData} : WpO (gLen (.tuple xs)) K = K (.int xs.length) := by with_unfolding_all rfl
theorem wpo_lenS {x : Str} : WpO (gLen (.str x)) K = (x.length ≤ sizeLine ∧ K (.int x.length)) := by with_unfolding_all
  show WpO (if _ then _ else none) K = _
  rw [wpo_if]; rfl
theorem wpo_tupL {xs : List PyData} : WpO (gTuple (.list xs)) K = K (.tuple xs) := by with_unfolding_all rfl
theorem wpo_tupT {xs : List PyData} : WpO (gTuple (.tuple xs)) K = K (.tuple xs) := by with_unfolding_all rfl
theorem wpo_lisL {xs : List PyData} : WpO (gList (.list xs)) K = K (.list xs) := by with_unfolding_all rfl
theorem wpo_lisT {xs : List PyData} : WpO (gList (.tuple xs)) K = K (.list xs) := by with_unfolding_all rfl
theorem wpo_intI {i : Int} : WpO (gInt (.int i)) K = K (.int i) := by with_unfolding_all rfl
theorem wpo_intB {b : Bool} : WpO (gInt (.bool b)) K = K (.int (if b then 1 else 0)) := by with_unfolding_all rfl
theorem wpo_ixL {xs : List PyData} {i : Int} : WpO (gIx (.list xs) (.int i)) K = WpO (atI xs i) K := by with_unfolding_all rfl
theorem wpo_ixT {xs : List PyData} {i : Int} : WpO (gIx (.tuple xs) (.int i)) K = WpO (atI xs i) K := by with_unfolding_all rfl
theorem wpo_ixS {x : Str} {i : Int} : WpO (gIx (.str x) (.int i)) K = (x.length ≤ sizeLine ∧ WpO (atI x.cps.toList i) fun c => K (.str ⟨#[c]⟩)) := by with_unfolding_all
  show WpO (if _ then _ else none) K = _
  rw [wpo_if, wpo_map]
theorem wpo_slL {xs : List PyData} {l h : Option Int} : WpO (gSl (.list xs) l h) K = K (.list (cutD xs l h)) := by with_unfolding_all rfl
theorem wpo_slT {xs : List PyData} {l h : Option Int} : WpO (gSl (.tuple xs) l h) K = K (.tuple (cutD xs l h)) := by with_unfolding_all rfl
theorem wpo_slS {x : Str} {l h : Option Int} : WpO (gSl (.str x) l h) K = (x.length ≤ sizeLine ∧ K (.str (cutS x l h))) := by with_unfolding_all
  show WpO (if _ then _ else none) K = _
  rw [wpo_if]; rfl
theorem bls_map : ∀ {bs : List Bool}, blsOf (bs.map PyData.bool) = some bs
  | [] => rfl
  | b :: bs => by simp [blsOf, bls_map (bs := bs)]
theorem ints_map : ∀ {bs : List Int}, intsOf (bs.map PyData.int) = some bs
  | [] => rfl
  | b :: bs => by simp [intsOf, ints_map (bs := bs)]
theorem strs_map : ∀ {bs : List Str}, strsOf (bs.map PyData.str) = some bs
  | [] => rfl
  | b :: bs => by simp [strsOf, strs_map (bs := bs)]
theorem wpo_all {τ : Type} {xs : List τ} {f : τ → Bool} : WpO (gAll (.list (xs.map fun x => .bool (f x)))) K = K (.bool (xs.all f)) := by with_unfolding_all
  have : (xs.map fun x => PyData.bool (f x)) = (xs.map f).map PyData.bool := by simp
  rw [this]
  show WpO ((blsOf _).map _) K = _
  rw [bls_map, wpo_map, wpo_some]
  simp [List.all_map, Function.comp_def]
theorem wpo_any {τ : Type} {xs : List τ} {f : τ → Bool} : WpO (gAny (.list (xs.map fun x => .bool (f x)))) K = K (.bool (xs.any f)) := by with_unfolding_all
  have : (xs.map fun x => PyData.bool (f x)) = (xs.map f).map PyData.bool := by simp
  rw [this]
  show WpO ((blsOf _).map _) K = _
  rw [bls_map, wpo_map, wpo_some]
  simp [List.any_map, Function.comp_def]
theorem wpo_sum {τ : Type} {xs : List τ} {f : τ → Int} : WpO (gSum (.list (xs.map fun x => .int (f x)))) K = K (.int (xs.map f).sum) := by with_unfolding_all
  have : (xs.map fun x => PyData.int (f x)) = (xs.map f).map PyData.int := by simp
  rw [this]
  show WpO ((intsOf _).map _) K = _
  rw [ints_map, wpo_map, wpo_some]
theorem wpo_min {i : Int} {r : List Int} : WpO (gMin (.list ((i :: r).map PyData.int))) K = K (.int (r.foldl (fun a b => if b < a then b else a) i)) := by with_unfolding_all
  show WpO (((intsOf _).bind leastI).map .int) K = _
  rw [ints_map]; rfl
/-! items -/
theorem wpo_at {α : Type} {xs : List α} {i : Int} {K : α → Prop} (h0 : 0 ≤ i) (h1 : i < xs.length) (h : ∀ d, d ∈ xs → xs[i.toNat]? = some d → K d) : WpO (atI xs i) K := by with_unfolding_all
  have hl : i.toNat < xs.length := by omega
  have e : xs[i.toNat]? = some xs[i.toNat] := List.getElem?_eq_getElem hl
  unfold L2.atI ixN
  rw [if_pos h0, if_pos h1]
  show WpO (xs[i.toNat]?) K
  rw [e]
  exact h _ (List.getElem_mem hl) e
theorem at_0 {α : Type} {x : α} {xs : List α} : atI (x :: xs) 0 = some x := by with_unfolding_all
  unfold L2.atI ixN
  rw [if_pos (by omega), if_pos (by simp)]; rfl
theorem at_1 {α : Type} {x y : α} {xs : List α} : atI (x :: y :: xs) 1 = some y := by with_unfolding_all
  unfold L2.atI ixN
  rw [if_pos (by omega), if_pos (by simp; omega)]; rfl
theorem at_2 {α : Type} {x y z : α} {xs : List α} : atI (x :: y :: z :: xs) 2 = some z := by with_unfolding_all
  unfold L2.atI ixN
  rw [if_pos (by omega), if_pos (by simp; omega)]; rfl
theorem at_last {α : Type} {x : α} {xs : List α} : atI (xs ++ [x]) (-1) = some x := by with_unfolding_all
  unfold L2.atI ixN
  rw [if_neg (by omega), if_pos (by simp; omega)]
  show (xs ++ [x])[((-1 : Int) + ((xs ++ [x]).length : Nat)).toNat]? = _
  rw [show ((-1 : Int) + ((xs ++ [x]).length : Nat)).toNat = xs.length by simp; omega]
  simp
theorem ix_0 {n : Nat} : ixN (n + 1) 0 = some 0 := by with_unfolding_all
  unfold ixN
  rw [if_pos (by omega), if_pos (by omega)]; rfl
theorem ix_2 {n : Nat} : ixN (n + 3) 2 = some 2 := by with_unfolding_all
  unfold ixN
  rw [if_pos (by omega), if_pos (by omega)]; rfl
/-! data -/
theorem ok_int {i : Int} : okD (.int i) = true := by with_unfolding_all rfl
theorem ok_bool {b : Bool} : okD (.bool b) = true := by with_unfolding_all rfl
theorem ok_none : okD .none = true := by with_unfolding_all rfl
theorem ok_str {x : Str} : okD (.str x) = true := by with_unfolding_all rfl
theorem eqv_int {i j : Int} : PyData.eqv (.int i) (.int j) = decide (i = j) := by with_unfolding_all rfl
theorem eqv_str {x y : Str} : PyData.eqv (.str x) (.str y) = decide (x = y) := by with_unfolding_all rfl
theorem eqv_bool {x y : Bool} : PyData.eqv (.bool x) (.bool y) = decide (x = y) := by with_unfolding_all (cases x <;> cases y <;> rfl)
theorem eqv_tt {xs ys : List PyData} : PyData.eqv (.tuple xs) (.tuple ys) = PyData.eqvAll xs ys := by with_unfolding_all (rw [PyData.eqv])
theorem eqv_st {x : Str} {ys : List PyData} : PyData.eqv (.str x) (.tuple ys) = false := by with_unfolding_all (rw [PyData.eqv])
theorem eqv_ts {x : Str} {ys : List PyData} : PyData.eqv (.tuple ys) (.str x) = false := by with_unfolding_all (rw [PyData.eqv])
theorem eqv_is {x : Str} {i : Int} : PyData.eqv (.int i) (.str x) = false := by with_unfolding_all (rw [PyData.eqv])
theorem eqv_si {x : Str} {i : Int} : PyData.eqv (.str x) (.int i) = false := by with_unfolding_all (rw [PyData.eqv])
theorem eqv_in {i : Int} : PyData.eqv (.int i) .none = false := by with_unfolding_all (rw [PyData.eqv])
theorem eqv_nn : PyData.eqv .none .none = true := by with_unfolding_all (rw [PyData.eqv])
theorem eqv_ni {i : Int} : PyData.eqv .none (.int i) = false := by with_unfolding_all (rw [PyData.eqv])
theorem isT_int {t : Ty} {i : Int} : isT t (.int i) = (match t with | .int => true | _ => false) := by with_unfolding_all (cases t <;> rfl)
theorem nn_int {i : Int} : isNn (.int i) = false := by with_unfolding_all rfl
theorem nn_str {i : Str} : isNn (.str i) = false := by with_unfolding_all rfl
theorem nn_tup {i : List PyData} : isNn (.tuple i) = false := by with_unfolding_all rfl
theorem nn_none : isNn .none = true := by with_unfolding_all rfl
theorem mut_int {i : Int} : isMut (.int i) = false := by with_unfolding_all rfl
theorem mut_str {i : Str} : isMut (.str i) = false := by with_unfolding_all rfl
theorem mut_tup {i : List PyData} : isMut (.tuple i) = false := by with_unfolding_all rfl
theorem mut_none : isMut .none = false := by with_unfolding_all rfl
theorem mut_list {i : List PyData} : isMut (.list i) = true := by with_unfolding_all rfl
theorem mut_dict {i : Ps} : isMut (.dict i) = true := by with_unfolding_all rfl
theorem seq_l {xs : List PyData} : seqOf (.list xs) = some xs := by with_unfolding_all rfl
theorem seq_t {xs : List PyData} : seqOf (.tuple xs) = some xs := by with_unfolding_all rfl
theorem zip_l {xs ys : List PyData} : zipOf (.list xs) (.list ys) = some (zipD xs ys) := by with_unfolding_all rfl
theorem zip_t {xs ys : List PyData} : zipOf (.tuple xs) (.tuple ys) = some (zipD xs ys) := by with_unfolding_all rfl
theorem nD {ps : Ps} : nDict ((.none, .none) :: ps) = some ps := by with_unfolding_all rfl
theorem key_i {i : Int} : toKey (.int i) = some (.inl i) := by with_unfolding_all rfl
theorem key_s {i : Str} : toKey (.str i) = some (.inr i) := by with_unfolding_all rfl
theorem lineE : sizeLine = 16777216 := by with_unfolding_all rfl
theorem outs_nil {ms : List Md} {ρ : Env} : outs ms [] ρ = some [] := by with_unfolding_all (unfold outs; rfl)
theorem outs_sh {ms : List Md} {d : PyData} {ds : List PyData} {o : Option PyData} {ρ : Env} : outs (.sh :: ms) (d :: ds) (o :: ρ) = (outs ms ds ρ).map (d :: ·) := by with_unfolding_all (simp [outs])
theorem outs_pm {ms : List Md} {d x : PyData} {ds : List PyData} {ρ : Env} : outs (.pm :: ms) (d :: ds) (some x :: ρ) = (outs ms ds ρ).map (x :: ·) := by with_unfolding_all (rw [outs]; rfl)
theorem outs_fz {ms : List Md} {d : PyData} {ds : List PyData} {o : Option PyData} {ρ : Env} : outs (.fz :: ms) (d :: ds) (o :: ρ) = (outs ms ds ρ).map (d :: ·) := by with_unfolding_all (simp [outs])
end
/-! ### a def, run -/
def Fin (R : PyData → List PyData → Prop) (ms : List Md) (ds : List PyData) : Fl → Env → Prop
  | .rt d, ρ => WpO (outs ms ds ρ) fun ps => R d ps
  | .nx, ρ => WpO (outs ms ds ρ) fun ps => R .none ps
  | _, _ => False
section
variable {R : PyData → List PyData → Prop} {ms : List Md} {ds : List PyData} {ρ : Env}
theorem fin_rt {d : PyData} : Fin R ms ds (.rt d) ρ = WpO (outs ms ds ρ) fun ps => R d ps := by with_unfolding_all rfl
theorem fin_nx : Fin R ms ds .nx ρ = WpO (outs ms ds ρ) fun ps => R .none ps := by with_unfolding_all rfl
theorem wpf_run {n : Nat} {body : DenS} (hl : ds.length = ms.length) (h : Wp (body (ds.map some ++ List.replicate (n - ds.length) none)) (Fin R ms ds)) : WpF (runBody n ms body ds) R := by with_unfolding_all
  rw [wpf_body]
  refine ⟨hl, h.imp fun fl ρ hf => ?_⟩
  cases fl with
  | rt d => exact hf
  | nx => exact hf
  | bk => exact hf.elim
  | ct => exact hf.elim
end
end PD
namespace PD
theorem Bt.dec {p : Prop} [Decidable p] {P Q : Prop} (h1 : p → P) (h2 : ¬p → Q) : Bt (decide p) P Q := Bt.mk (fun h => h1 (of_decide_eq_true h)) fun h => h2 (of_decide_eq_false h)
theorem Bt.decn {p : Prop} [Decidable p] {P Q : Prop} (h1 : ¬p → P) (h2 : p → Q) : Bt (!decide p) P Q := by with_unfolding_all
  by_cases h : p
  · simpa [h, bt_f, bt_t] using h2 h
  · simpa [h, bt_t, bt_f] using h1 h
theorem bt_dt {p : Prop} [Decidable p] {P Q : Prop} (h : p) (h1 : P) : Bt (decide p) P Q := Bt.dec (fun _ => h1) fun z => absurd h z
theorem bt_df {p : Prop} [Decidable p] {P Q : Prop} (h : ¬p) (h1 : Q) : Bt (decide p) P Q := Bt.dec (fun z => absurd z h) fun _ => h1
end PD

set_option Elab.async false
set_option linter.all false
set_option maxRecDepth 100000
set_option maxHeartbeats 1000000
set_option autoImplicit false
namespace PD
open PySem L2 PySem.Spec PyProof.Rows PySem.W
/-! ### dicts, typed -/
section
variable {κ τ σ : Type} [DecidableEq κ]
def kput (δ : List (κ × τ)) (k : κ) (t : τ) : List (κ × τ) := if (δ.any fun p => decide (p.1 = k)) = true then δ.map fun p => if p.1 = k then (p.1, t) else p else δ ++ [(k, t)]
def klook (δ : List (κ × τ)) (k : κ) : Option τ := (δ.find? fun p => decide (p.1 = k)).map (·.2)
def keys (δ : List (κ × τ)) : List κ := δ.map (·.1)
theorem any_keys {δ : List (κ × τ)} {k : κ} : (δ.any fun p => decide (p.1 = k)) = true ↔ k ∈ keys δ := by
  simp only [List.any_eq_true, decide_eq_true_eq, keys, List.mem_map]
theorem kput_keys {δ : List (κ × τ)} {k : κ} {t : τ} : keys (kput δ k t) = if k ∈ keys δ then keys δ else keys δ ++ [k] := by
  unfold kput
  by_cases h : k ∈ keys δ
  · rw [if_pos (any_keys.mpr h), if_pos h]
    unfold keys
    rw [List.map_map]
    apply List.map_congr_left
    intro p _
    simp only [Function.comp]
    split <;> rfl
  · rw [if_neg (fun z => h (any_keys.mp z)), if_neg h]
    simp [keys]
theorem kput_nodup {δ : List (κ × τ)} {k : κ} {t : τ} (h : (keys δ).Nodup) : (keys (kput δ k t)).Nodup := by
  rw [kput_keys]
  split
  · exact h
  · rename_i hk
    rw [List.nodup_append]
    exact ⟨h, by simp, fun a ha b hb => by simp at hb; subst hb; exact fun e => hk (e ▸ ha)⟩
theorem kput_mem {δ : List (κ × τ)} {k j : κ} {t : τ} : j ∈ keys (kput δ k t) ↔ j = k ∨ j ∈ keys δ := by
  rw [kput_keys]
  split
  · rename_i h
    exact ⟨.inr, fun q => q.elim (fun e => e ▸ h) id⟩
  · simp only [List.mem_append, List.mem_singleton]
    exact ⟨fun q => q.elim .inr .inl, fun q => q.elim .inr .inl⟩
theorem kput_len {δ : List (κ × τ)} {k : κ} {t : τ} : (kput δ k t).length ≤ δ.length + 1 := by
  unfold kput
  split <;> simp
theorem klook_nil {k : κ} : klook ([] : List (κ × τ)) k = none := rfl
theorem klook_cons {p : κ × τ} {δ : List (κ × τ)} {k : κ} : klook (p :: δ) k = if p.1 = k then some p.2 else klook δ k := by
  unfold klook
  rw [List.find?_cons]
  by_cases h : p.1 = k <;> simp [h]
theorem klook_none {δ : List (κ × τ)} {k : κ} : klook δ k = none ↔ k ∉ keys δ := by
  induction δ with
  | nil => simp [klook, keys]
  | cons p δ ih =>
    rw [klook_cons]
    by_cases h : p.1 = k
    · simp [h, keys]
    · rw [if_neg h, ih]
      simp only [keys, List.map_cons, List.mem_cons, not_or]
      exact ⟨fun q => ⟨fun e => h e.symm, q⟩, fun q => q.2⟩
theorem klook_app {δ ε : List (κ × τ)} {k : κ} (h : k ∉ keys δ) : klook (δ ++ ε) k = klook ε k := by
  induction δ with
  | nil => rfl
  | cons p δ ih =>
    simp only [keys, List.map_cons, List.mem_cons, not_or] at h
    rw [List.cons_append, klook_cons, if_neg (fun e => h.1 e.symm)]
    exact ih h.2
theorem klook_put {δ : List (κ × τ)} {k j : κ} {t : τ} : klook (kput δ k t) j = if j = k then some t else klook δ j := by
  unfold kput
  by_cases h : k ∈ keys δ
  · rw [if_pos (any_keys.mpr h)]
    induction δ with
    | nil => simp [keys] at h
    | cons p δ ih =>
      rw [List.map_cons, klook_cons, klook_cons]
      by_cases hp : p.1 = k
      · rw [if_pos hp]
        by_cases hj : j = k
        · subst hj; simp [hp]
        · have : ¬ p.1 = j := fun e => hj (e.symm.trans hp)
          rw [if_neg this, if_neg hj]
          simp only [if_neg this]
          by_cases hk : k ∈ keys δ
          · rw [ih hk, if_neg hj]
          · have : (δ.map fun p => if p.1 = k then (p.1, t) else p) = δ := by
              conv => rhs; rw [← List.map_id δ]
              apply List.map_congr_left
              intro q hq
              have : q.1 ≠ k := fun e => hk (by simp only [keys, List.mem_map]; exact ⟨q, hq, e⟩)
              simp [this]
            rw [this]
      · rw [if_neg hp]
        have hk : k ∈ keys δ := by
          simp only [keys, List.map_cons, List.mem_cons] at h
          exact h.resolve_left (fun e => hp e.symm)
        rw [ih hk]
        by_cases hj : j = k
        · subst hj; simp [hp]
        · simp [hj]
  · rw [if_neg (fun z => h (any_keys.mp z))]
    by_cases hj : j = k
    · subst hj
      rw [klook_app h, klook_cons]; simp
    · rw [if_neg hj]
      clear h
      induction δ with
      | nil => rw [List.nil_append, klook_cons, if_neg (fun e => hj e.symm)]
      | cons p δ ih =>
        rw [List.cons_append, klook_cons, klook_cons]
        split
        · rfl
        · exact ih
/-- filled by a walk -/
def kfill (kf : σ → κ) (vf : σ → τ) (xs : List σ) : List (κ × τ) := xs.foldl (fun δ x => kput δ (kf x) (vf x)) []
theorem kfill_at {kf : σ → κ} {vf : σ → τ} : ∀ (xs : List σ) (δ : List (κ × τ)), (keys δ).Nodup → (keys (xs.foldl (fun δ x => kput δ (kf x) (vf x)) δ)).Nodup ∧ (∀ j, j ∈ keys (xs.foldl (fun δ x => kput δ (kf x) (vf x)) δ) ↔ j ∈ keys δ ∨ j ∈ xs.map kf) ∧ (xs.foldl (fun δ x => kput δ (kf x) (vf x)) δ).length ≤ δ.length + xs.length
  | [], δ, h => ⟨h, by simp, by simp⟩
  | x :: xs, δ, h => by
    obtain ⟨h1, h2, h3⟩ := kfill_at (kf := kf) (vf := vf) xs (kput δ (kf x) (vf x)) (kput_nodup h)
    refine ⟨h1, fun j => ?_, ?_⟩
    · rw [List.foldl_cons, h2 j, kput_mem, List.map_cons, List.mem_cons]
      constructor
      · rintro ((h | h) | h)
        · exact .inr (.inl h)
        · exact .inl h
        · exact .inr (.inr h)
      · rintro (h | h | h)
        · exact .inl (.inr h)
        · exact .inl (.inl h)
        · exact .inr h
    · have := kput_len (δ := δ) (k := kf x) (t := vf x)
      rw [List.foldl_cons, List.length_cons]; omega
theorem kfill_nodup {kf : σ → κ} {vf : σ → τ} {xs : List σ} : (keys (kfill kf vf xs)).Nodup := (kfill_at xs [] (by simp [keys])).1
theorem kfill_mem {kf : σ → κ} {vf : σ → τ} {xs : List σ} {j : κ} : j ∈ keys (kfill kf vf xs) ↔ j ∈ xs.map kf := by
  rw [kfill, (kfill_at xs [] (by simp [keys])).2.1]; simp [keys]
theorem kfill_len {kf : σ → κ} {vf : σ → τ} {xs : List σ} : (kfill kf vf xs).length ≤ xs.length := by
  have := (kfill_at (kf := kf) (vf := vf) xs [] (by simp [keys])).2.2
  unfold kfill; simpa using this
theorem kfill_look {kf : σ → κ} {vf : σ → τ} (h : κ → τ) {j : κ} : ∀ (xs : List σ) (δ : List (κ × τ)), (∀ x ∈ xs, vf x = h (kf x)) → j ∈ xs.map kf → klook (xs.foldl (fun δ x => kput δ (kf x) (vf x)) δ) j = some (h j)
  | [], _, _, hj => by simp at hj
  | x :: xs, δ, hv, hj => by
    by_cases hm : j ∈ xs.map kf
    · exact kfill_look h xs _ (fun y hy => hv y (by simp [hy])) hm
    · have hk : j = kf x := by
        simp only [List.map_cons, List.mem_cons] at hj
        exact hj.resolve_right hm
      rw [List.foldl_cons]
      have : ∀ (ys : List σ) (ε : List (κ × τ)), j ∉ ys.map kf → klook (ys.foldl (fun δ x => kput δ (kf x) (vf x)) ε) j = klook ε j := by
        intro ys
        induction ys with
        | nil => intro ε _; rfl
        | cons y ys ih =>
          intro ε hn
          simp only [List.map_cons, List.mem_cons, not_or] at hn
          rw [List.foldl_cons, ih _ hn.2, klook_put, if_neg hn.1]
      rw [this xs _ hm, klook_put, if_pos hk, hv x (by simp), hk]
theorem kfill_get {kf : σ → κ} {vf : σ → τ} (h : κ → τ) {xs : List σ} {j : κ} (hv : ∀ x ∈ xs, vf x = h (kf x)) (hj : j ∈ xs.map kf) : klook (kfill kf vf xs) j = some (h j) := kfill_look h xs [] hv hj
/-- the values are those that were laid -/
theorem klook_of {P : κ → τ → Prop} {kf : σ → κ} {vf : σ → τ} : ∀ (xs : List σ) (δ : List (κ × τ)), (∀ x ∈ xs, P (kf x) (vf x)) → (∀ j t, klook δ j = some t → P j t) → ∀ j t, klook (xs.foldl (fun δ x => kput δ (kf x) (vf x)) δ) j = some t → P j t
  | [], _, _, h0 => h0
  | x :: xs, δ, hx, h0 => by
    refine klook_of xs _ (fun y hy => hx y (by simp [hy])) fun j t h => ?_
    rw [klook_put] at h
    split at h
    · rename_i e; cases h; rw [e]; exact hx x (by simp)
    · exact h0 j t h
/-! ### .. and as data -/
variable {ek : κ → PyData} {ev : τ → PyData}
def encD (ek : κ → PyData) (ev : τ → PyData) (δ : List (κ × τ)) : Ps := δ.map fun p => (ek p.1, ev p.2)
theorem encD_len {δ : List (κ × τ)} : (encD ek ev δ).length = δ.length := by simp [encD]
theorem encD_keys {δ : List (κ × τ)} : (encD ek ev δ).map (·.1) = (keys δ).map ek := by simp [encD, keys, Function.comp_def]
/-- flat keys -/
structure FlatK (ek : κ → PyData) (kk : κ → Key) : Prop where
  key : ∀ k, toKey (ek k) = some (kk k)
  inj : ∀ k j, kk k = kk j → k = j
theorem FlatK.kD {kk : κ → Key} (F : FlatK ek kk) (k : κ) : kD (kk k) = ek k := by
  have := F.key k
  revert this
  cases ek k <;> intro h <;> first | cases h | (simp only [toKey, Option.some.injEq] at h; rw [← h]; rfl)
theorem FlatK.keyB {kk : κ → Key} (F : FlatK ek kk) (k j : κ) : keyB (ek k) (kk j) = decide (k = j) := by
  rw [← F.kD k, keyB_kD]
  by_cases h : k = j
  · subst h; simp
  · simp [h]; exact fun e => h (F.inj _ _ e)
theorem flat_put {kk : κ → Key} (F : FlatK ek kk) {δ : List (κ × τ)} {k : κ} {t : τ} : dput (encD ek ev δ) (kk k) (ev t) = encD ek ev (kput δ k t) := by
  unfold dput kput encD
  rw [List.any_map]
  simp only [Function.comp_def, F.keyB]
  split
  · rw [List.map_map, List.map_map]
    apply List.map_congr_left
    intro p _
    simp only [Function.comp, F.keyB, decide_eq_true_eq]
    split <;> rfl
  · rw [List.map_append, F.kD]; rfl
theorem flat_find {kk : κ → Key} (F : FlatK ek kk) {δ : List (κ × τ)} {k : κ} : dfind (encD ek ev δ) (kk k) = (klook δ k).map ev := by
  induction δ with
  | nil => rfl
  | cons p δ ih =>
    rw [klook_cons]
    unfold dfind encD at ih ⊢
    rw [List.map_cons, List.find?_cons, F.keyB]
    by_cases h : p.1 = k
    · simp [h]
    · simp only [h, decide_false, if_false]
      exact ih
theorem flat_isN {kk : κ → Key} (F : FlatK ek kk) {δ : List (κ × τ)} : isN (encD ek ev δ) = false := by
  cases δ with
  | nil => rfl
  | cons p δ =>
    have := F.key p.1
    show isN ((ek p.1, ev p.2) :: _) = false
    revert this
    cases ek p.1 <;> intro h <;> first | rfl | cases h
/-- nested keys -/
structure NestK (ek : κ → PyData) (ok : κ → Prop) : Prop where
  ok : ∀ k, ok k → keyOkN (ek k) = true
  inj : ∀ k j, nk (ek k) = nk (ek j) → k = j
theorem nest_put {ok : κ → Prop} (F : NestK ek ok) {δ : List (κ × τ)} {k : κ} {t : τ} : nput (encD ek ev δ) (ek k) (ev t) = encD ek ev (kput δ k t) := by
  have hd : ∀ p : κ × τ, decide (nk (ek p.1) = nk (ek k)) = decide (p.1 = k) := fun p => by
    by_cases h : p.1 = k
    · simp [h]
    · simp [h]; exact fun e => h (F.inj _ _ e)
  unfold nput kput encD
  rw [List.any_map]
  simp only [Function.comp_def, hd]
  split
  · rw [List.map_map, List.map_map]
    apply List.map_congr_left
    intro p _
    have hp : (nk (ek p.1) = nk (ek k)) = (p.1 = k) := by
      have := hd p
      exact propext ⟨fun e => F.inj _ _ e, fun e => by rw [e]⟩
    simp only [Function.comp]
    by_cases h : p.1 = k
    · rw [if_pos (hp.mpr h), if_pos h]
    · rw [if_neg (fun z => h (hp.mp z)), if_neg h]
  · rw [List.map_append]; rfl
theorem nest_find {ok : κ → Prop} (F : NestK ek ok) {δ : List (κ × τ)} {k : κ} : nfind (encD ek ev δ) (ek k) = (klook δ k).map ev := by
  induction δ with
  | nil => rfl
  | cons p δ ih =>
    rw [klook_cons]
    unfold nfind encD at ih ⊢
    rw [List.map_cons, List.find?_cons]
    by_cases h : p.1 = k
    · simp [h]
    · have : ¬ nk (ek p.1) = nk (ek k) := fun e => h (F.inj _ _ e)
      simp only [h, this, decide_false, if_false]
      exact ih
end
/-! ### sorted -/
section
variable {κ : Type}
def ksort (ek : κ → PyData) (ks : List κ) : List κ := ks.mergeSort fun a b => !dataLt (ek b) (ek a)
theorem dataLe_eq {a b : PyData} : dataLe false id a b = !dataLt b a := rfl
theorem le_tr {a b c : PyData} (h1 : (!dataLt b a) = true) (h2 : (!dataLt c b) = true) : (!dataLt c a) = true := (sortLe_total (listOrd itemOrd) false keyToks).trans a b c h1 h2
theorem le_tot {a b : PyData} : (!dataLt b a || !dataLt a b) = true := by
  rw [Bool.or_eq_true]
  exact (sortLe_total (listOrd itemOrd) false keyToks).total a b
theorem lt_irr {a : PyData} : dataLt a a = false := (listOrd itemOrd).irrefl _
theorem lt_tr {a b c : PyData} (h1 : dataLt a b = true) (h2 : dataLt b c = true) : dataLt a c = true := (listOrd itemOrd).trans _ _ _ h1 h2
theorem sortD_map {ek : κ → PyData} {ks : List κ} : sortD (ks.map ek) = (ksort ek ks).map ek := by
  unfold sortD ksort
  rw [List.map_mergeSort]
  intro a _ b _
  rfl
variable {ek : κ → PyData}
theorem ksort_perm {ks : List κ} : (ksort ek ks).Perm ks := List.mergeSort_perm _ _
theorem ksort_mem {ks : List κ} {k : κ} : k ∈ ksort ek ks ↔ k ∈ ks := ksort_perm.mem_iff
theorem ksort_len {ks : List κ} : (ksort ek ks).length = ks.length := ksort_perm.length_eq
theorem ksort_nodup {ks : List κ} (h : ks.Nodup) : (ksort ek ks).Nodup := ksort_perm.nodup_iff.mpr h
theorem ksort_le {ks : List κ} : (ksort ek ks).Pairwise fun a b => dataLt (ek b) (ek a) = false := by
  have := List.pairwise_mergeSort (le := fun a b => !dataLt (ek b) (ek a)) (fun a b c h1 h2 => le_tr h1 h2) (fun a b => le_tot) ks
  refine this.imp fun h => by simpa using h
/-- two lists that rise strictly and have the same items are one -/
theorem rise_eq {lt : κ → κ → Prop} (as : ∀ a b, lt a b → ¬ lt b a) : ∀ {l m : List κ}, l.Pairwise lt → m.Pairwise lt → (∀ x, x ∈ l ↔ x ∈ m) → l = m
  | [], [], _, _, _ => rfl
  | [], y :: m, _, _, h => absurd ((h y).mpr (by simp)) (by simp)
  | x :: l, [], _, _, h => absurd ((h x).mp (by simp)) (by simp)
  | x :: l, y :: m, h1, h2, h => by
    rw [List.pairwise_cons] at h1 h2
    have e : x = y := by
      have hx := (h x).mp (by simp)
      have hy := (h y).mpr (by simp)
      rw [List.mem_cons] at hx hy
      rcases hx with e | hx
      · exact e
      · rcases hy with e | hy
        · exact e.symm
        · exact absurd (h2.1 x hx) (as _ _ (h1.1 y hy))
    subst e
    have hx1 : x ∉ l := fun z => as _ _ (h1.1 x z) (h1.1 x z)
    have hx2 : x ∉ m := fun z => as _ _ (h2.1 x z) (h2.1 x z)
    rw [rise_eq as h1.2 h2.2 fun z => ?_]
    have hz := h z
    rw [List.mem_cons, List.mem_cons] at hz
    constructor
    · intro q
      rcases hz.mp (.inr q) with e | r
      · subst e; exact absurd q hx1
      · exact r
    · intro q
      rcases hz.mpr (.inr q) with e | r
      · subst e; exact absurd q hx2
      · exact r
def Tot (ek : κ → PyData) (ks : List κ) : Prop := ∀ a ∈ ks, ∀ b ∈ ks, dataLt (ek a) (ek b) = false → dataLt (ek b) (ek a) = false → a = b
theorem ksort_lt {ks : List κ} (h : ks.Nodup) (t : Tot ek ks) : (ksort ek ks).Pairwise fun a b => dataLt (ek a) (ek b) = true := by
  have h1 : (ksort ek ks).Pairwise fun a b => dataLt (ek b) (ek a) = false ∧ a ≠ b := List.Pairwise.and ksort_le (ksort_nodup (ek := ek) h)
  refine List.Pairwise.imp_of_mem (fun {a b} ha hb hab => ?_) h1
  cases e : dataLt (ek a) (ek b) with
  | true => rfl
  | false => exact absurd (t a (ksort_mem.mp ha) b (ksort_mem.mp hb) e hab.1) hab.2
theorem lt_asym {a b : PyData} (h : dataLt a b = true) : ¬ dataLt b a = true := fun z => by
  have := lt_tr h z
  rw [lt_irr] at this; cases this
theorem ksort_eq {ks l : List κ} (h : ks.Nodup) (hl : l.Pairwise fun a b => dataLt (ek a) (ek b) = true) (hm : ∀ x, x ∈ l ↔ x ∈ ks) : ksort ek ks = l := by
  have t : Tot ek ks := fun a ha b hb h1 h2 => by
    have ha := (hm a).mpr ha
    have hb := (hm b).mpr hb
    obtain ⟨i, hi, rfl⟩ := List.mem_iff_getElem.mp ha
    obtain ⟨j, hj, rfl⟩ := List.mem_iff_getElem.mp hb
    rw [List.pairwise_iff_getElem] at hl
    rcases Nat.lt_trichotomy i j with q | q | q
    · rw [hl i j hi hj q] at h1; cases h1
    · subst q; rfl
    · rw [hl j i hj hi q] at h2; cases h2
  exact rise_eq (lt := fun a b => dataLt (ek a) (ek b) = true) (fun a b h => lt_asym h) (ksort_lt h t) hl fun x => by rw [ksort_mem, hm x]
/-- the order in which the keys come makes nothing else -/
theorem ksort_same {ks ls : List κ} (h1 : ks.Nodup) (h2 : ls.Nodup) (t : Tot ek ls) (hm : ∀ x, x ∈ ks ↔ x ∈ ls) : ksort ek ks = ksort ek ls :=
  ksort_eq h1 (ksort_lt h2 t) fun x => by rw [ksort_mem, hm x]
/-! how data compare -/
theorem lt_str {x y : Str} : dataLt (.str x) (.str y) = true → x ≠ y := fun h e => by subst e; rw [lt_irr] at h; cases h
theorem tot_of {ek : κ → PyData} {ks : List κ} (h : ∀ a ∈ ks, ∀ b ∈ ks, keyToks (ek a) = keyToks (ek b) → a = b) : Tot ek ks := fun a ha b hb h1 h2 =>
  h a ha b hb ((listOrd itemOrd).total _ _ h1 h2)
theorem toks_str {x y : Str} (h : keyToks (.str x) = keyToks (.str y)) : x = y := by
  simp only [keyToks, List.cons.injEq, Sum.inr.injEq, and_true] at h
  exact str_of_cps h
theorem toks_ints : ∀ {xs ys : List Int}, keyToks (.tuple (xs.map PyData.int)) = keyToks (.tuple (ys.map PyData.int)) → xs = ys
  | [], [], _ => rfl
  | [], y :: ys, h => by simp [keyToks, keyToksAll] at h
  | x :: xs, [], h => by simp [keyToks, keyToksAll] at h
  | x :: xs, y :: ys, h => by
    simp only [keyToks, keyToksAll, List.map_cons, List.cons_append, List.nil_append, List.cons.injEq, Sum.inl.injEq, true_and] at h
    rw [h.1, toks_ints (xs := xs) (ys := ys) (by simpa [keyToks] using h.2)]
end
end PD

set_option Elab.async false
set_option linter.all false
set_option maxRecDepth 100000
set_option maxHeartbeats 1000000
set_option autoImplicit false
namespace PD
open PySem L2 PySem.Spec PyProof.Rows PySem.W PySem.Builtin
section
variable {ρ : Env} {Q : PyData → Env → Prop} {K : PyData → Prop}
theorem wp_join {fa fb : Den} : Wp (dJoin fa fb ρ) Q = Wp (fa ρ) fun a ρ => isT .str a = true ∧ Wp (fb ρ) fun b ρ => WpO (gJoin a b) fun d => Q d ρ := by with_unfolding_all
  unfold dJoin
  rw [wp_bind]; refine Wp.cg fun a ρ => ?_
  by_cases h : isT .str a = true
  · rw [if_pos h, wp_bind, show (isT .str a = true) = True from eq_true h, true_and]
    refine Wp.cg fun b ρ => ?_
    cases gJoin a b <;> rfl
  · rw [if_neg h]
    refine propext ⟨fun z => z.elim, fun z => absurd z.1 h⟩
theorem wpo_join {s : Str} {ys : List Str} : WpO (gJoin (.str s) (.list (ys.map PyData.str))) K = ((ys.map (·.length)).sum + ys.length * s.length ≤ 16777216 ∧ K (.str (Str.join s ys))) := by with_unfolding_all
  show WpO ((strsOf _).bind _) K = _
  rw [strs_map, wpo_bind, wpo_some, wpo_if]
  show (_ ∧ K (.str (PySem.Builtin.Str.glued s ys))) = _
  rw [StrLaws.glued_eq_join]
theorem wp_idx {fo fe : Den} : Wp (dIdx fo fe ρ) Q = Wp (fo ρ) fun o ρ => WpL (some (some o)) fun ds => Wp (fe ρ) fun d ρ => okIx ds d = true ∧ WpO (SeqAt.dataPlace ds d) fun j => Q (.int (j : Int)) ρ := by with_unfolding_all
  unfold dIdx
  rw [wp_bind]; refine Wp.cg fun o ρ => ?_
  cases o with
  | list ds =>
    rw [wpl, wp_bind]; refine Wp.cg fun d ρ => ?_
    rw [wp_if]
    congr 1
    cases SeqAt.dataPlace ds d <;> rfl
  | _ => rfl
theorem wp_sl3 {f : Den} {fl fh ft : DenO} : Wp (dSl3 f fl fh ft ρ) Q = Wp (f ρ) fun a ρ => Wp (fl ρ) fun l ρ => Wp (fh ρ) fun h ρ => Wp (ft ρ) fun t ρ => WpL (some (some a)) fun ds => t ≠ some 0 ∧ Q (.list (pick ds l h t)) ρ := by with_unfolding_all
  unfold dSl3
  rw [wp_bind]; refine Wp.cg fun a ρ => ?_
  rw [wp_bind]; refine Wp.cg fun l ρ => ?_
  rw [wp_bind]; refine Wp.cg fun h ρ => ?_
  rw [wp_bind]; refine Wp.cg fun t ρ => ?_
  cases a with
  | list ds =>
    by_cases ht : t = some 0
    · simp [ht, Wp, wpl]
    · simp [ht, wp_ok, wpl]
  | _ => rfl
theorem eq_true_and_self (p : Prop) : (false = false ∧ p) = p := by with_unfolding_all (simp)
theorem wp_dget1 {fa fb : Den} : Wp (dGet1 fa fb ρ) Q = Wp (fa ρ) fun d ρ => WpD (some (some d)) fun ps => isN ps = false ∧ Wp (fb ρ) fun y ρ => WpO (toKey y) fun k => Q ((dfind ps k).getD .none) ρ := by with_unfolding_all
  unfold dGet1
  rw [wp_bind]; refine Wp.cg fun d ρ => ?_
  cases d with
  | dict ps =>
    rw [wpd]
    show Wp (if isN ps = true then Out.bad else _) Q = _
    cases hn : isN ps with
    | true => simp [Wp]
    | false =>
      rw [if_neg (by simp), show (false = false ∧ _) = _ from eq_true_and_self _]
      rw [wp_bind]; refine Wp.cg fun y ρ => ?_
      cases toKey y <;> rfl
  | _ => rfl
theorem wp_inC {kvs : List (Str × Int)} {f : Den} : Wp (dInC kvs f ρ) Q = Wp (f ρ) fun d ρ => WpS d fun z => Q (.bool (diFind kvs z).isSome) ρ := by with_unfolding_all
  unfold dInC
  rw [wp_bind]; refine Wp.cg fun d ρ => ?_
  cases d <;> rfl
theorem wp_getC {kvs : List (Str × Int)} {f : Den} : Wp (dGetC kvs f ρ) Q = Wp (f ρ) fun d ρ => WpS d fun z => Q (match diFind kvs z with | some i => .int i | none => .none) ρ := by with_unfolding_all
  unfold dGetC
  rw [wp_bind]; refine Wp.cg fun d ρ => ?_
  cases d <;> rfl
/-! dicts, typed -/
variable {κ τ : Type} [DecidableEq κ] {ek : κ → PyData} {ev : τ → PyData}
theorem wpo_dget {kk : κ → Key} (F : FlatK ek kk) {δ : List (κ × τ)} {k : κ} : WpO (gDGet (.dict (encD ek ev δ)) (ek k)) K = WpO (klook δ k) fun t => K (ev t) := by with_unfolding_all
  show WpO (if isN (encD ek ev δ) = true then none else (toKey (ek k)).bind (dfind (encD ek ev δ))) K = _
  rw [flat_isN F, F.key k]
  show WpO (dfind (encD ek ev δ) (kk k)) K = _
  rw [flat_find F, wpo_map]
theorem wpo_nget {ok : κ → Prop} (F : NestK ek ok) {δ : List (κ × τ)} {k : κ} (h : ok k) : WpO (gNGet (.dict ((.none, .none) :: encD ek ev δ)) (ek k)) K = WpO (klook δ k) fun t => K (ev t) := by with_unfolding_all
  show WpO (if keyOkN (ek k) = true then nfind (encD ek ev δ) (ek k) else none) K = _
  rw [if_pos (F.ok k h), nest_find F, wpo_map]
theorem keysD_flat {kk : κ → Key} (F : FlatK ek kk) {δ : List (κ × τ)} : keysD (encD ek ev δ) = (keys δ).map ek := by with_unfolding_all
  unfold keysD
  rw [flat_isN F, if_neg (by simp), encD_keys]
theorem keysD_nest {δ : List (κ × τ)} : keysD ((.none, .none) :: encD ek ev δ) = (keys δ).map ek := by with_unfolding_all
  show List.map _ (encD ek ev δ) = _
  rw [encD_keys]
theorem wpo_sorted {ps : Ps} {ks : List κ} (h : keysD ps = ks.map ek) (ok : sortOk (ks.map ek) = true) : WpO (gSorted (.dict ps)) K = K (.list ((ksort ek ks).map ek)) := by with_unfolding_all
  show WpO (if sortOk (keysD ps) = true then _ else none) K = _
  rw [h, if_pos ok, sortD_map]; rfl
theorem sortOk_of {ks : List κ} (h1 : ∀ k ∈ ks, (ek k).plain = true ∧ (ek k).depth ≤ 64 ∧ ek k ≠ .none) (h2 : ∀ k ∈ ks, ∀ j ∈ ks, alike (ek k) (ek j) = true) (h3 : ks.length ≤ 1 ∨ (∀ k ∈ ks, isTup1 (ek k) = true) ∨ (∀ k ∈ ks, noTup (ek k) = true)) : sortOk (ks.map ek) = true := by with_unfolding_all
  unfold sortOk
  simp only [Bool.and_eq_true, Bool.or_eq_true, List.all_eq_true, List.mem_map, List.length_map, decide_eq_true_eq]
  refine ⟨⟨?_, ?_⟩, ?_⟩
  · rintro _ ⟨k, hk, rfl⟩
    obtain ⟨a, b, c⟩ := h1 k hk
    refine ⟨⟨a, b⟩, ?_⟩
    revert c
    cases ek k <;> intro c <;> first | rfl | exact absurd rfl c
  · rintro _ ⟨k, hk, rfl⟩ _ ⟨j, hj, rfl⟩
    exact h2 k hk j hj
  · rcases h3 with h | h | h
    · exact .inl (.inl h)
    · refine .inl (.inr ?_)
      rintro _ ⟨k, hk, rfl⟩
      exact h k hk
    · refine .inr ?_
      rintro _ ⟨k, hk, rfl⟩
      exact h k hk
theorem putF_put {kk : κ → Key} (F : FlatK ek kk) {δ : List (κ × τ)} {k : κ} {t : τ} (h : δ.length < sizeLine) : putF (.dict (encD ek ev δ)) (ek k) (ev t) = some (.dict (encD ek ev (kput δ k t))) := by with_unfolding_all
  unfold putF
  rw [F.key k]
  show (if _ then _ else none) = _
  rw [if_pos ⟨flat_isN F, by rw [encD_len]; exact h⟩, flat_put F]
theorem putN_put {ok : κ → Prop} (F : NestK ek ok) {δ : List (κ × τ)} {k : κ} {t : τ} (hk : ok k) (h : δ.length < sizeLine) : putN (.dict ((.none, .none) :: encD ek ev δ)) (ek k) (ev t) = some (.dict ((.none, .none) :: encD ek ev (kput δ k t))) := by with_unfolding_all
  unfold putN
  show (if _ then _ else none) = _
  rw [if_pos ⟨F.ok k hk, by rw [encD_len]; exact h⟩, nest_put F]
end
/-! ### kinds of keys -/
theorem flatStr : FlatK PyData.str Sum.inr := ⟨fun _ => rfl, fun k j h => Sum.inr.inj h⟩
theorem flatInt : FlatK PyData.int Sum.inl := ⟨fun _ => rfl, fun k j h => Sum.inl.inj h⟩
def nat (n : Nat) : PyData := .int (n : Int)
theorem flatNat : FlatK nat fun n => Sum.inl (n : Int) := ⟨fun _ => rfl, fun k j h => Int.ofNat.inj (Sum.inl.inj h)⟩
def nats (r : List Nat) : PyData := .tuple (r.map nat)
theorem nk_nats : ∀ {r : List Nat}, nks (r.map nat) = r.map fun (n : Nat) => NestedKey.num (n : Int)
  | [] => rfl
  | n :: r => by show nk (nat n) :: nks (r.map nat) = _; rw [nk_nats]; rfl
theorem nums_inj : ∀ {r s : List Nat}, (r.map fun (n : Nat) => NestedKey.num (n : Int)) = (s.map fun (n : Nat) => NestedKey.num (n : Int)) → r = s
  | [], [], _ => rfl
  | [], _ :: _, h => by cases h
  | _ :: _, [], h => by cases h
  | a :: r, b :: s, h => by with_unfolding_all
    simp only [List.map_cons, List.cons.injEq, NestedKey.num.injEq, Int.natCast_inj] at h
    rw [h.1, nums_inj h.2]
theorem depth_nums : ∀ {r : List Nat}, NestedKey.depthAll (r.map fun (n : Nat) => NestedKey.num (n : Int)) = 0
  | [] => rfl
  | n :: r => by simp [NestedKey.depthAll, NestedKey.depth, depth_nums (r := r)]
theorem hsh_nats : ∀ {r : List Nat}, hshs (r.map nat) = true
  | [] => rfl
  | n :: r => by show (hsh (nat n) && hshs (r.map nat)) = true; rw [hsh_nats]; rfl
theorem nestNats : NestK nats fun _ => True := by with_unfolding_all
  refine ⟨fun k _ => ?_, fun k j h => ?_⟩
  · have h1 : hsh (nats k) = true := by show hshs (k.map nat) = true; exact hsh_nats
    have h2 : (nk (nats k)).depth ≤ 8 := by with_unfolding_all
      show (NestedKey.tup (nks (k.map nat))).depth ≤ 8
      rw [nk_nats, NestedKey.depth, depth_nums]; omega
    unfold keyOkN
    rw [h1, decide_eq_true h2]; rfl
  · have h : NestedKey.tup (nks (k.map nat)) = NestedKey.tup (nks (j.map nat)) := h
    rw [nk_nats, nk_nats] at h
    exact nums_inj (NestedKey.tup.inj h)
theorem plain_nats : ∀ {r : List Nat}, PyData.plainAll (r.map nat) = true
  | [] => rfl
  | n :: r => by show (PyData.plain (nat n) && PyData.plainAll (r.map nat)) = true; rw [plain_nats]; rfl
theorem depth_nats : ∀ {r : List Nat}, PyData.depthAll (r.map nat) = 0
  | [] => rfl
  | n :: r => by show max (nat n).depth (PyData.depthAll (r.map nat)) = 0; rw [depth_nats]; rfl
theorem nats_plain {r : List Nat} : (nats r).plain = true := by with_unfolding_all (unfold nats; rw [PyData.plain]; exact plain_nats)
theorem nats_depth {r : List Nat} : (nats r).depth = 1 := by with_unfolding_all (unfold nats; rw [PyData.depth, depth_nats])
theorem nats_ok {r : List Nat} : okD (nats r) = true := by with_unfolding_all (simp [okD, nats_plain, nats_depth])
theorem alike_nats : ∀ {r s : List Nat}, alikeAll (r.map nat) (s.map nat) = true
  | [], _ => by rw [List.map_nil, alikeAll]
  | _ :: _, [] => by rw [List.map_nil, List.map_cons, alikeAll]
  | a :: r, b :: s => by with_unfolding_all
    rw [List.map_cons, List.map_cons, alikeAll, alike_nats (r := r) (s := s)]; rfl
theorem nats_alike {r s : List Nat} : alike (nats r) (nats s) = true := by with_unfolding_all (unfold nats; rw [alike]; exact alike_nats)
theorem nats_toks {r s : List Nat} (h : keyToks (nats r) = keyToks (nats s)) : r = s := by with_unfolding_all
  have e : ∀ r : List Nat, nats r = .tuple ((r.map fun (n : Nat) => (n : Int)).map PyData.int) := fun r => by with_unfolding_all
    unfold nats; rw [List.map_map]; rfl
  rw [e, e] at h
  have := toks_ints h
  have inj : ∀ {r s : List Nat}, (r.map fun (n : Nat) => (n : Int)) = (s.map fun (n : Nat) => (n : Int)) → r = s := by with_unfolding_all
    intro r
    induction r with
    | nil => intro s h; cases s with | nil => rfl | cons _ _ => cases h
    | cons a r ih =>
      intro s h
      cases s with
      | nil => cases h
      | cons b s =>
        simp only [List.map_cons, List.cons.injEq, Int.natCast_inj] at h
        rw [h.1, ih h.2]
  exact inj this
end PD

set_option Elab.async false
set_option linter.all false
set_option maxRecDepth 100000
set_option maxHeartbeats 1000000
set_option autoImplicit false
namespace PD
open PySem L2 PySem.Spec PyProof.Rows PySem.W PySem.Builtin
/-! ### loops over written lists -/
section
variable {ρ : Env} {Q : PyData → Env → Prop} {S : Fl → Env → Prop} {g : PyData → Env → Option Env} {tt : DenB} {te : Den} {vs : List Nat} {body : DenS} {d : PyData} {ds : List PyData}
theorem wp_for_nil : Wp (forLoop g body [] ρ) S = S .nx ρ := by with_unfolding_all rfl
theorem wp_for_cons : Wp (forLoop g body (d :: ds) ρ) S = WpO (g d ρ) fun ρ1 => Wp (body ρ1) (Turn S fun ρ2 => Wp (forLoop g body ds ρ2) S) := by with_unfolding_all
  rw [forLoop]
  cases g d ρ with
  | none => rfl
  | some ρ1 =>
    rw [wpo_some]
    dsimp only
    cases body ρ1 with
    | ok fl ρ2 => cases fl <;> rfl
    | _ => rfl
def unw (k : Nat) (vs : List Nat) : Env → Env → Env
  | a :: ρ0, b :: ρ => (if k ∈ vs then a else b) :: unw (k + 1) vs ρ0 ρ
  | [], b :: ρ => (if k ∈ vs then none else b) :: unw (k + 1) vs [] ρ
  | _, [] => []
theorem unw_get {vs : List Nat} : ∀ (ρ0 ρ : Env) (k i : Nat), (unw k vs ρ0 ρ)[i]? = if i < ρ.length then some (if k + i ∈ vs then (ρ0[i]?).getD none else (ρ[i]?).getD none) else none
  | ρ0, [], k, i => by cases ρ0 <;> simp [unw]
  | [], b :: ρ, k, 0 => by simp [unw]
  | a :: ρ0, b :: ρ, k, 0 => by simp [unw]
  | [], b :: ρ, k, i + 1 => by with_unfolding_all
    rw [unw, List.getElem?_cons_succ, unw_get [] ρ (k + 1) i]
    simp [Nat.add_assoc, Nat.add_comm 1 i]
  | a :: ρ0, b :: ρ, k, i + 1 => by with_unfolding_all
    rw [unw, List.getElem?_cons_succ, unw_get ρ0 ρ (k + 1) i]
    simp [Nat.add_assoc, Nat.add_comm 1 i]
theorem unwipe_unw {ρ0 ρ : Env} {vs : List Nat} : unwipe ρ0 ρ vs = unw 0 vs ρ0 ρ := by with_unfolding_all
  apply List.ext_getElem?
  intro i
  rw [unw_get]
  unfold unwipe
  rw [List.getElem?_map]
  by_cases h : i < ρ.length
  · rw [List.getElem?_range h, if_pos h, Nat.zero_add]; rfl
  · rw [List.getElem?_eq_none (by simpa using h), if_neg h]; rfl
theorem unw_cc {k : Nat} {a b : Option PyData} {ρ0 : Env} : unw k vs (a :: ρ0) (b :: ρ) = (if k ∈ vs then a else b) :: unw (k + 1) vs ρ0 ρ := by with_unfolding_all rfl
theorem unw_nil {k : Nat} : unw k vs [] [] = [] := by with_unfolding_all rfl
theorem wp_lcAll : Wp (lcAll g tt te vs ds ρ) Q = Wp (lcLoop g tt te vs ds (wipeE ρ vs)) fun ys ρ' => ys.length ≤ sizeLine ∧ Q (.list ys) (unw 0 vs ρ ρ') := by with_unfolding_all
  unfold lcAll
  cases lcLoop g tt te vs ds (wipeE ρ vs) with
  | ok ys ρ' =>
    show Wp (if _ then _ else _) Q = _
    rw [wp_if, wp_ok, wp_ok, unwipe_unw]
  | _ => rfl
theorem wp_lcA_nil : Wp (lcAll g tt te vs [] ρ) Q = Wp (lcLoop g tt te vs [] (wipeE ρ vs)) fun ys ρ' => ys.length ≤ sizeLine ∧ Q (.list ys) (unw 0 vs ρ ρ') := wp_lcAll
theorem wp_lcA_cons : Wp (lcAll g tt te vs (d :: ds) ρ) Q = Wp (lcLoop g tt te vs (d :: ds) (wipeE ρ vs)) fun ys ρ' => ys.length ≤ sizeLine ∧ Q (.list ys) (unw 0 vs ρ ρ') := wp_lcAll
theorem wp_lc_nil {L : List PyData → Env → Prop} : Wp (lcLoop g tt te vs [] ρ) L = L [] ρ := by with_unfolding_all rfl
theorem wp_lc_cons {L : List PyData → Env → Prop} : Wp (lcLoop g tt te vs (d :: ds) ρ) L = WpO (g d ρ) fun ρ1 => Wp (tt ρ1) fun b ρ2 => Bt b (Wp (te ρ2) fun y ρ3 => Wp (lcLoop g tt te vs ds (wipeE ρ3 vs)) fun ys ρ => L (y :: ys) ρ) (Wp (lcLoop g tt te vs ds (wipeE ρ2 vs)) L) := by with_unfolding_all
  rw [lcLoop]
  cases g d ρ with
  | none => rfl
  | some ρ1 =>
    rw [wpo_some]
    dsimp only
    cases tt ρ1 with
    | ok b ρ2 =>
      cases b with
      | true =>
        rw [wp_ok, bt_t]
        dsimp only
        cases te ρ2 with
        | ok y ρ3 =>
          rw [wp_ok]
          dsimp only
          cases lcLoop g tt te vs ds (wipeE ρ3 vs) <;> rfl
        | _ => rfl
      | false => rw [wp_ok, bt_f]
    | _ => rfl
theorem wp_yes {T : Bool → Env → Prop} : Wp (dYes ρ) T = T true ρ := by with_unfolding_all rfl
end
theorem wpf_ok {d : PyData} {ps : List PyData} {R : PyData → List PyData → Prop} : WpF (.ok d ps) R = R d ps := by with_unfolding_all rfl
theorem wpo_joinL {s : Str} {xs : List PyData} {K : PyData → Prop} : WpO (gJoin (.str s) (.list xs)) K = WpO (strsOf xs) fun ys => (ys.map (·.length)).sum + ys.length * s.length ≤ 16777216 ∧ K (.str (Str.join s ys)) := by with_unfolding_all
  show WpO ((strsOf _).bind _) K = _
  rw [wpo_bind]
  refine WpO.cg fun ys => ?_
  rw [wpo_if]
  show (_ ∧ K (.str (PySem.Builtin.Str.glued s ys))) = _
  rw [StrLaws.glued_eq_join]
theorem strs_cons {x : Str} {r : List PyData} : strsOf (.str x :: r) = (strsOf r).map (x :: ·) := by with_unfolding_all rfl
theorem strs_nil : strsOf [] = some [] := by with_unfolding_all rfl
theorem ints_cons {x : Int} {r : List PyData} : intsOf (.int x :: r) = (intsOf r).map (x :: ·) := by with_unfolding_all rfl
theorem ints_nil : intsOf [] = some [] := by with_unfolding_all rfl
theorem wpo_minL {xs : List PyData} {K : PyData → Prop} : WpO (gMin (.list xs)) K = WpO (intsOf xs) fun ys => WpO (leastI ys) fun i => K (.int i) := by with_unfolding_all
  show WpO (((intsOf _).bind leastI).map .int) K = _
  rw [wpo_map, wpo_bind]
theorem least_1 {i : Int} : leastI [i] = some i := by with_unfolding_all rfl
theorem least_2 {i j : Int} : leastI [i, j] = some (if j < i then j else i) := by with_unfolding_all rfl
theorem okl_nil : okD (.list []) = true := by with_unfolding_all rfl
theorem okt_nil : okD (.tuple []) = true := by with_unfolding_all rfl
theorem okl_int {i : Int} : okD (.list [.int i]) = true := by with_unfolding_all rfl
theorem okl_int2 {i j : Int} : okD (.list [.int i, .int j]) = true := by with_unfolding_all rfl
def isSc : PyData → Bool
  | .none => true
  | .bool _ => true
  | .int _ => true
  | .str _ => true
  | _ => false
theorem sc_int {i : Int} : isSc (.int i) = true := by with_unfolding_all rfl
theorem sc_str {i : Str} : isSc (.str i) = true := by with_unfolding_all rfl
theorem sc_none : isSc .none = true := by with_unfolding_all rfl
theorem sc_all : ∀ {xs : List PyData}, xs.all isSc = true → PyData.plainAll xs = true ∧ PyData.depthAll xs = 0
  | [], _ => ⟨rfl, rfl⟩
  | x :: xs, h => by with_unfolding_all
    simp only [List.all_cons, Bool.and_eq_true] at h
    obtain ⟨h1, h2⟩ := sc_all h.2
    have hx : x.plain = true ∧ x.depth = 0 := by with_unfolding_all
      cases x <;> first | exact ⟨rfl, rfl⟩ | exact absurd h.1 (by simp [isSc])
    refine ⟨?_, ?_⟩
    · show (x.plain && PyData.plainAll xs) = true
      rw [hx.1, h1]; rfl
    · show max x.depth (PyData.depthAll xs) = 0
      rw [hx.2, h2]; rfl
theorem okt_sc {xs : List PyData} (h : xs.all isSc = true) : okD (.tuple xs) = true := by with_unfolding_all
  obtain ⟨h1, h2⟩ := sc_all h
  have e1 : (PyData.tuple xs).plain = true := by rw [PyData.plain]; exact h1
  have e2 : (PyData.tuple xs).depth = 1 := by rw [PyData.depth, h2]
  unfold okD
  rw [e1, e2]; rfl
theorem okl_sc {xs : List PyData} (h : xs.all isSc = true) : okD (.list xs) = true := by with_unfolding_all
  obtain ⟨h1, h2⟩ := sc_all h
  have e1 : (PyData.list xs).plain = true := by rw [PyData.plain]; exact h1
  have e2 : (PyData.list xs).depth = 1 := by rw [PyData.depth, h2]
  unfold okD
  rw [e1, e2]; rfl
theorem at_m1 {α : Type} {x : α} : atI [x] (-1) = some x := at_last (xs := [])
theorem at_m2 {α : Type} {x y : α} : atI [x, y] (-1) = some y := at_last (xs := [x])
theorem cut_1 {x : PyData} {xs : List PyData} : PD.cutD (x :: xs) (some 1) none = xs := by with_unfolding_all
  unfold PD.cutD
  have e : HT.sIx (x :: xs).length 0 (some 1) = 1 := by with_unfolding_all
    show (if (1 : Int) < 0 then ((1 : Int) + ((xs.length + 1 : Nat) : Int)).toNat else min (1 : Int).toNat (xs.length + 1)) = 1
    rw [if_neg (by omega)]
    show min 1 (xs.length + 1) = 1
    omega
  rw [e, HT.sIx_none, List.drop_succ_cons, List.drop_zero, List.length_cons, Nat.add_sub_cancel, List.take_length]
theorem natc_0 : ((0 : Nat) : Int) = 0 := by with_unfolding_all rfl
theorem natc_1 : ((1 : Nat) : Int) = 1 := by with_unfolding_all rfl
theorem natc_2 : ((2 : Nat) : Int) = 2 := by with_unfolding_all rfl
theorem natc_3 : ((3 : Nat) : Int) = 3 := by with_unfolding_all rfl
theorem natc_4 : ((4 : Nat) : Int) = 4 := by with_unfolding_all rfl
theorem natc_5 : ((5 : Nat) : Int) = 5 := by with_unfolding_all rfl
theorem natc_6 : ((6 : Nat) : Int) = 6 := by with_unfolding_all rfl
theorem natc_7 : ((7 : Nat) : Int) = 7 := by with_unfolding_all rfl
theorem isT_int_none : isT .int .none = false := rfl
theorem isT_int_bool {b : Bool} : isT .int (.bool b) = true := rfl
theorem isT_int_int {i : Int} : isT .int (.int i) = true := rfl
theorem isT_int_str {x : Str} : isT .int (.str x) = false := rfl
theorem isT_int_list {xs : List PyData} : isT .int (.list xs) = false := rfl
theorem isT_int_tuple {xs : List PyData} : isT .int (.tuple xs) = false := rfl
theorem isT_int_dict {ps : Ps} : isT .int (.dict ps) = false := rfl
theorem isT_bool_none : isT .bool .none = false := rfl
theorem isT_bool_bool {b : Bool} : isT .bool (.bool b) = true := rfl
theorem isT_bool_int {i : Int} : isT .bool (.int i) = false := rfl
theorem isT_bool_str {x : Str} : isT .bool (.str x) = false := rfl
theorem isT_bool_list {xs : List PyData} : isT .bool (.list xs) = false := rfl
theorem isT_bool_tuple {xs : List PyData} : isT .bool (.tuple xs) = false := rfl
theorem isT_bool_dict {ps : Ps} : isT .bool (.dict ps) = false := rfl
theorem isT_str_none : isT .str .none = false := rfl
theorem isT_str_bool {b : Bool} : isT .str (.bool b) = false := rfl
theorem isT_str_int {i : Int} : isT .str (.int i) = false := rfl
theorem isT_str_str {x : Str} : isT .str (.str x) = true := rfl
theorem isT_str_list {xs : List PyData} : isT .str (.list xs) = false := rfl
theorem isT_str_tuple {xs : List PyData} : isT .str (.tuple xs) = false := rfl
theorem isT_str_dict {ps : Ps} : isT .str (.dict ps) = false := rfl
theorem isT_tuple_none : isT .tuple .none = false := rfl
theorem isT_tuple_bool {b : Bool} : isT .tuple (.bool b) = false := rfl
theorem isT_tuple_int {i : Int} : isT .tuple (.int i) = false := rfl
theorem isT_tuple_str {x : Str} : isT .tuple (.str x) = false := rfl
theorem isT_tuple_list {xs : List PyData} : isT .tuple (.list xs) = false := rfl
theorem isT_tuple_tuple {xs : List PyData} : isT .tuple (.tuple xs) = true := rfl
theorem isT_tuple_dict {ps : Ps} : isT .tuple (.dict ps) = false := rfl
theorem isT_list_none : isT .list .none = false := rfl
theorem isT_list_bool {b : Bool} : isT .list (.bool b) = false := rfl
theorem isT_list_int {i : Int} : isT .list (.int i) = false := rfl
theorem isT_list_str {x : Str} : isT .list (.str x) = false := rfl
theorem isT_list_list {xs : List PyData} : isT .list (.list xs) = true := rfl
theorem isT_list_tuple {xs : List PyData} : isT .list (.tuple xs) = false := rfl
theorem isT_list_dict {ps : Ps} : isT .list (.dict ps) = false := rfl
theorem isT_dict_none : isT .dict .none = false := rfl
theorem isT_dict_bool {b : Bool} : isT .dict (.bool b) = false := rfl
theorem isT_dict_int {i : Int} : isT .dict (.int i) = false := rfl
theorem isT_dict_str {x : Str} : isT .dict (.str x) = false := rfl
theorem isT_dict_list {xs : List PyData} : isT .dict (.list xs) = false := rfl
theorem isT_dict_tuple {xs : List PyData} : isT .dict (.tuple xs) = false := rfl
theorem isT_dict_dict {ps : Ps} : isT .dict (.dict ps) = true := rfl
/-! ### the words -/
theorem w_not_both : (("not" : Str) = "both") = False := by with_unfolding_all (decide +kernel)
theorem w_not_either : (("not" : Str) = "either") = False := by with_unfolding_all (decide +kernel)
theorem w_not_turned : (("not" : Str) = "turned") = False := by with_unfolding_all (decide +kernel)
theorem w_not_chain : (("not" : Str) = "chain") = False := by with_unfolding_all (decide +kernel)
theorem w_not_some : (("not" : Str) = "some") = False := by with_unfolding_all (decide +kernel)
theorem w_both_not : (("both" : Str) = "not") = False := by with_unfolding_all (decide +kernel)
theorem w_both_either : (("both" : Str) = "either") = False := by with_unfolding_all (decide +kernel)
theorem w_both_turned : (("both" : Str) = "turned") = False := by with_unfolding_all (decide +kernel)
theorem w_both_chain : (("both" : Str) = "chain") = False := by with_unfolding_all (decide +kernel)
theorem w_both_some : (("both" : Str) = "some") = False := by with_unfolding_all (decide +kernel)
theorem w_either_not : (("either" : Str) = "not") = False := by with_unfolding_all (decide +kernel)
theorem w_either_both : (("either" : Str) = "both") = False := by with_unfolding_all (decide +kernel)
theorem w_either_turned : (("either" : Str) = "turned") = False := by with_unfolding_all (decide +kernel)
theorem w_either_chain : (("either" : Str) = "chain") = False := by with_unfolding_all (decide +kernel)
theorem w_either_some : (("either" : Str) = "some") = False := by with_unfolding_all (decide +kernel)
theorem w_turned_not : (("turned" : Str) = "not") = False := by with_unfolding_all (decide +kernel)
theorem w_turned_both : (("turned" : Str) = "both") = False := by with_unfolding_all (decide +kernel)
theorem w_turned_either : (("turned" : Str) = "either") = False := by with_unfolding_all (decide +kernel)
theorem w_turned_chain : (("turned" : Str) = "chain") = False := by with_unfolding_all (decide +kernel)
theorem w_turned_some : (("turned" : Str) = "some") = False := by with_unfolding_all (decide +kernel)
theorem w_chain_not : (("chain" : Str) = "not") = False := by with_unfolding_all (decide +kernel)
theorem w_chain_both : (("chain" : Str) = "both") = False := by with_unfolding_all (decide +kernel)
theorem w_chain_either : (("chain" : Str) = "either") = False := by with_unfolding_all (decide +kernel)
theorem w_chain_turned : (("chain" : Str) = "turned") = False := by with_unfolding_all (decide +kernel)
theorem w_chain_some : (("chain" : Str) = "some") = False := by with_unfolding_all (decide +kernel)
theorem w_some_not : (("some" : Str) = "not") = False := by with_unfolding_all (decide +kernel)
theorem w_some_both : (("some" : Str) = "both") = False := by with_unfolding_all (decide +kernel)
theorem w_some_either : (("some" : Str) = "either") = False := by with_unfolding_all (decide +kernel)
theorem w_some_turned : (("some" : Str) = "turned") = False := by with_unfolding_all (decide +kernel)
theorem w_some_chain : (("some" : Str) = "chain") = False := by with_unfolding_all (decide +kernel)
theorem di_not : diFind [("not", 1), ("both", 2), ("either", 2), ("turned", 1), ("chain", 2), ("some", 1)] "not" = some 1 := by with_unfolding_all (decide +kernel)
theorem di_both : diFind [("not", 1), ("both", 2), ("either", 2), ("turned", 1), ("chain", 2), ("some", 1)] "both" = some 2 := by with_unfolding_all (decide +kernel)
theorem di_either : diFind [("not", 1), ("both", 2), ("either", 2), ("turned", 1), ("chain", 2), ("some", 1)] "either" = some 2 := by with_unfolding_all (decide +kernel)
theorem di_turned : diFind [("not", 1), ("both", 2), ("either", 2), ("turned", 1), ("chain", 2), ("some", 1)] "turned" = some 1 := by with_unfolding_all (decide +kernel)
theorem di_chain : diFind [("not", 1), ("both", 2), ("either", 2), ("turned", 1), ("chain", 2), ("some", 1)] "chain" = some 2 := by with_unfolding_all (decide +kernel)
theorem di_some : diFind [("not", 1), ("both", 2), ("either", 2), ("turned", 1), ("chain", 2), ("some", 1)] "some" = some 1 := by with_unfolding_all (decide +kernel)
end PD

set_option Elab.async false
set_option linter.all false
set_option maxRecDepth 100000
set_option maxHeartbeats 1000000
set_option autoImplicit false
namespace Mz
open PySem L2 PySem.Spec PD PyProof.Rows PySem.W
/-! ### terms -/
inductive Tm where
  | nm (s : Str)
  | un (w : Str) (t : Tm)
  | bi (w : Str) (t u : Tm)
  deriving DecidableEq
instance : Inhabited Tm := ⟨.nm ""⟩
def Tm.e : Tm → PyData
  | .nm s => .str s
  | .un w t => .tuple [.str w, t.e]
  | .bi w t u => .tuple [.str w, t.e, u.e]
def Tm.dep : Tm → Nat
  | .nm _ => 0
  | .un _ t => t.dep + 1
  | .bi _ t u => max t.dep u.dep + 1
def Tm.txt : Tm → Str
  | .nm s => s
  | .un w t => Str.join " " [w, t.txt]
  | .bi w t u => Str.join " " [w, t.txt, u.txt]
def Tm.parts : Tm → List Tm
  | .nm s => [.nm s]
  | .un w t => .un w t :: t.parts
  | .bi w t u => .bi w t u :: (t.parts ++ u.parts)
abbrev Ns := List (Str × Nat)
/-- a term of notions, and its places -/
inductive Ty (N : Ns) : Tm → Nat → Prop
  | nm {s : Str} {p : Nat} : (s, p) ∈ N → Ty N (.nm s) p
  | not {t : Tm} {p : Nat} : Ty N t p → Ty N (.un "not" t) p
  | both {t u : Tm} {p : Nat} : Ty N t p → Ty N u p → Ty N (.bi "both" t u) p
  | either {t u : Tm} {p : Nat} : Ty N t p → Ty N u p → Ty N (.bi "either" t u) p
  | chain {t u : Tm} : Ty N t 2 → Ty N u 2 → Ty N (.bi "chain" t u) 2
  | turned {t : Tm} : Ty N t 2 → Ty N (.un "turned" t) 2
  | some {t : Tm} : Ty N t 2 → Ty N (.un "some" t) 1
def words : List Str := ["not", "both", "either", "turned", "chain", "some"]
structure NameOk (s : Str) : Prop where
  l0 : 1 ≤ s.length
  l1 : s.length ≤ 8
  low : ∀ c ∈ s.cps.toList, 97 ≤ c ∧ c ≤ 122
  nw : s ∉ words
structure NsOk (N : Ns) : Prop where
  l0 : 1 ≤ N.length
  l1 : N.length ≤ 3
  nd : (N.map (·.1)).Nodup
  ok : ∀ n ∈ N, NameOk n.1 ∧ (n.2 = 1 ∨ n.2 = 2)
def noE (n : Str × Nat) : PyData := .tuple [.str n.1, nat n.2]
def nsE (N : Ns) : PyData := .tuple (N.map noE)
def wd (N : Ns) : Tm → Nat
  | .nm s => (klook N s).getD 0
  | .un w t => if w = "turned" then 2 else if w = "some" then 1 else wd N t
  | .bi w t _ => if w = "chain" then 2 else wd N t
theorem look_nd {κ τ : Type} [DecidableEq κ] : ∀ {N : List (κ × τ)} {k : κ} {t : τ}, (N.map (·.1)).Nodup → (k, t) ∈ N → klook N k = some t
  | p :: N, k, t, nd, h => by
    rw [List.map_cons, List.nodup_cons] at nd
    rw [klook_cons]
    rw [List.mem_cons] at h
    rcases h with e | h
    · subst e; rw [if_pos rfl]
    · rw [if_neg (fun e => nd.1 (by rw [e]; exact List.mem_map_of_mem (f := (·.1)) h))]
      exact look_nd nd.2 h
theorem Ty.wd {N : Ns} (nd : (N.map (·.1)).Nodup) : ∀ {t : Tm} {p : Nat}, Ty N t p → Mz.wd N t = p
  | _, _, .nm h => by
    unfold Mz.wd
    rw [look_nd nd h]; rfl
  | _, _, .not h => by unfold Mz.wd; rw [if_neg (by decide +kernel), if_neg (by decide +kernel)]; exact h.wd nd
  | _, _, .both h _ => by unfold Mz.wd; rw [if_neg (by decide +kernel)]; exact h.wd nd
  | _, _, .either h _ => by unfold Mz.wd; rw [if_neg (by decide +kernel)]; exact h.wd nd
  | _, _, .chain _ _ => by unfold Mz.wd; rw [if_pos rfl]
  | _, _, .turned _ => by unfold Mz.wd; rw [if_pos rfl]
  | _, _, .some _ => by unfold Mz.wd; rw [if_neg (by decide +kernel), if_pos rfl]
theorem Ty.p12 {N : Ns} (ok : ∀ n ∈ N, n.2 = 1 ∨ n.2 = 2) : ∀ {t : Tm} {p : Nat}, Ty N t p → p = 1 ∨ p = 2
  | _, _, .nm h => ok _ h
  | _, _, .not h => h.p12 ok
  | _, _, .both h _ => h.p12 ok
  | _, _, .either h _ => h.p12 ok
  | _, _, .chain _ _ => .inr rfl
  | _, _, .turned _ => .inr rfl
  | _, _, .some _ => .inl rfl
/-! terms as data -/
theorem Tm.e_inj : ∀ {t u : Tm}, t.e = u.e → t = u
  | .nm s, .nm s', h => by injection h with h; rw [h]
  | .nm _, .un _ _, h => by cases h
  | .nm _, .bi _ _ _, h => by cases h
  | .un _ _, .nm _, h => by cases h
  | .un w t, .un w' t', h => by
    simp only [Tm.e, PyData.tuple.injEq, List.cons.injEq, PyData.str.injEq, and_true] at h
    rw [h.1, Tm.e_inj h.2]
  | .un _ _, .bi _ _ _, h => by simp [Tm.e] at h
  | .bi _ _ _, .nm _, h => by cases h
  | .bi _ _ _, .un _ _, h => by simp [Tm.e] at h
  | .bi w t u, .bi w' t' u', h => by
    simp only [Tm.e, PyData.tuple.injEq, List.cons.injEq, PyData.str.injEq, and_true] at h
    rw [h.1, Tm.e_inj h.2.1, Tm.e_inj h.2.2]
theorem Tm.nk_inj : ∀ {t u : Tm}, nk t.e = nk u.e → t = u
  | .nm s, .nm s', h => by simp only [Tm.e, nk, NestedKey.text.injEq] at h; rw [h]
  | .nm _, .un _ _, h => by simp [Tm.e, nk] at h
  | .nm _, .bi _ _ _, h => by simp [Tm.e, nk] at h
  | .un _ _, .nm _, h => by simp [Tm.e, nk] at h
  | .un w t, .un w' t', h => by
    simp only [Tm.e, nk, nks, NestedKey.tup.injEq, List.cons.injEq, NestedKey.text.injEq, and_true] at h
    rw [h.1, Tm.nk_inj h.2]
  | .un _ _, .bi _ _ _, h => by simp [Tm.e, nk, nks] at h
  | .bi _ _ _, .nm _, h => by simp [Tm.e, nk] at h
  | .bi _ _ _, .un _ _, h => by simp [Tm.e, nk, nks] at h
  | .bi w t u, .bi w' t' u', h => by
    simp only [Tm.e, nk, nks, NestedKey.tup.injEq, List.cons.injEq, NestedKey.text.injEq, and_true] at h
    rw [h.1, Tm.nk_inj h.2.1, Tm.nk_inj h.2.2]
theorem Tm.hsh_e : ∀ t : Tm, hsh t.e = true
  | .nm s => rfl
  | .un w t => by simp [Tm.e, hsh, hshs, Tm.hsh_e t]
  | .bi w t u => by simp [Tm.e, hsh, hshs, Tm.hsh_e t, Tm.hsh_e u]
theorem Tm.nk_dep : ∀ t : Tm, (nk t.e).depth ≤ t.dep
  | .nm s => by simp [Tm.e, nk, NestedKey.depth]
  | .un w t => by
    have := Tm.nk_dep t
    simp only [Tm.e, nk, nks, NestedKey.depth, NestedKey.depthAll, Tm.dep]
    omega
  | .bi w t u => by
    have := Tm.nk_dep t
    have := Tm.nk_dep u
    simp only [Tm.e, nk, nks, NestedKey.depth, NestedKey.depthAll, Tm.dep]
    omega
theorem Tm.plain : ∀ t : Tm, t.e.plain = true
  | .nm s => rfl
  | .un w t => by simp [Tm.e, PyData.plain, PyData.plainAll, Tm.plain t]
  | .bi w t u => by simp [Tm.e, PyData.plain, PyData.plainAll, Tm.plain t, Tm.plain u]
theorem Tm.depth : ∀ t : Tm, t.e.depth ≤ t.dep
  | .nm s => by simp [Tm.e, PyData.depth]
  | .un w t => by
    have := Tm.depth t
    simp only [Tm.e, PyData.depth, PyData.depthAll, Tm.dep]
    omega
  | .bi w t u => by
    have := Tm.depth t
    have := Tm.depth u
    simp only [Tm.e, PyData.depth, PyData.depthAll, Tm.dep]
    omega
theorem Tm.eqv : ∀ t u : Tm, PyData.eqv t.e u.e = decide (t = u)
  | .nm s, .nm s' => by simp [Tm.e, eqv_str]
  | .nm _, .un _ _ => by simp [Tm.e, eqv_st]
  | .nm _, .bi _ _ _ => by simp [Tm.e, eqv_st]
  | .un _ _, .nm _ => by simp [Tm.e, eqv_ts]
  | .bi _ _ _, .nm _ => by simp [Tm.e, eqv_ts]
  | .un w t, .un w' t' => by simp [Tm.e, eqv_tt, PyData.eqvAll, eqv_str, Tm.eqv t t']
  | .un _ _, .bi _ _ _ => by simp [Tm.e, eqv_tt, PyData.eqvAll]
  | .bi _ _ _, .un _ _ => by simp [Tm.e, eqv_tt, PyData.eqvAll]
  | .bi w t u, .bi w' t' u' => by simp [Tm.e, eqv_tt, PyData.eqvAll, eqv_str, Tm.eqv t t', Tm.eqv u u']
theorem Tm.ok (t : Tm) (h : t.dep ≤ 64) : okD t.e = true := by
  unfold okD
  have := t.depth
  rw [t.plain, Bool.true_and, decide_eq_true_eq]; omega
theorem Tm.nmut (t : Tm) : isMut t.e = false := by cases t <;> rfl
theorem plainAll_map {τ : Type} {e : τ → PyData} : ∀ {xs : List τ}, (∀ x ∈ xs, (e x).plain = true) → PyData.plainAll (xs.map e) = true
  | [], _ => rfl
  | x :: xs, h => by
    show ((e x).plain && PyData.plainAll (xs.map e)) = true
    rw [h x (by simp), plainAll_map fun y hy => h y (by simp [hy])]; rfl
theorem depthAll_map {τ : Type} {e : τ → PyData} {n : Nat} : ∀ {xs : List τ}, (∀ x ∈ xs, (e x).depth ≤ n) → PyData.depthAll (xs.map e) ≤ n
  | [], _ => Nat.zero_le _
  | x :: xs, h => by
    show max (e x).depth (PyData.depthAll (xs.map e)) ≤ n
    have := h x (by simp)
    have := depthAll_map (xs := xs) fun y hy => h y (by simp [hy])
    omega
theorem ok_tup {τ : Type} {e : τ → PyData} {xs : List τ} (h : ∀ x ∈ xs, okD (e x) = true ∧ (e x).depth ≤ 63) : okD (.tuple (xs.map e)) = true := by
  have h1 : ∀ x ∈ xs, (e x).plain = true ∧ (e x).depth ≤ 63 := fun x hx => by
    have := h x hx
    simp only [okD, Bool.and_eq_true] at this
    exact ⟨this.1.1, this.2⟩
  have := depthAll_map (xs := xs) fun x hx => (h1 x hx).2
  unfold okD
  have e1 : (PyData.tuple (xs.map e)).plain = true := by rw [PyData.plain]; exact plainAll_map fun x hx => (h1 x hx).1
  have e2 : (PyData.tuple (xs.map e)).depth ≤ 64 := by rw [PyData.depth]; exact Nat.succ_le_succ this
  rw [e1, decide_eq_true e2]; rfl
theorem ok_lst {τ : Type} {e : τ → PyData} {xs : List τ} (h : ∀ x ∈ xs, okD (e x) = true ∧ (e x).depth ≤ 63) : okD (.list (xs.map e)) = true := by
  have := ok_tup h
  have e1 : (PyData.list (xs.map e)).plain = (PyData.tuple (xs.map e)).plain := by simp only [PyData.plain]
  have e2 : (PyData.list (xs.map e)).depth = (PyData.tuple (xs.map e)).depth := by simp only [PyData.depth]
  unfold okD at this ⊢
  rw [e1, e2]; exact this
theorem any_tm {xs : List Tm} {t : Tm} : ((xs.map Tm.e).any fun y => PyData.eqv y t.e) = decide (t ∈ xs) := by
  rw [List.any_map]
  by_cases h : t ∈ xs
  · rw [decide_eq_true h, List.any_eq_true]
    exact ⟨t, h, by simp [Function.comp, Tm.eqv]⟩
  · rw [decide_eq_false h, List.any_eq_false]
    intro x hx
    simp only [Function.comp, Tm.eqv, decide_eq_true_eq]
    exact fun e => h (e ▸ hx)
/-! texts -/
theorem slen (a b : Str) : (a ++ b).length = a.length + b.length := by
  show (a.cps ++ b.cps).size = _
  rw [Array.size_append]; rfl
theorem join2 (a b : Str) : Str.join " " [a, b] = a ++ (" " : Str) ++ b := rfl
theorem join3 (a b c : Str) : Str.join " " [a, b, c] = a ++ (" " : Str) ++ (b ++ (" " : Str) ++ c) := rfl
/-- every word of it is short -/
def Tm.short : Tm → Prop
  | .nm s => s.length ≤ 8
  | .un w t => w.length ≤ 8 ∧ t.short
  | .bi w t u => w.length ≤ 8 ∧ t.short ∧ u.short
theorem Tm.txt_len : ∀ t : Tm, t.short → t.txt.length + 10 ≤ 20 * 2 ^ t.dep
  | .nm s, h => by simp only [Tm.txt, Tm.dep, Tm.short] at h ⊢; omega
  | .un w t, h => by
    have := Tm.txt_len t h.2
    have h1 := h.1
    have hs : ((" " : Str)).length = 1 := by decide +kernel
    simp only [Tm.txt, Tm.dep, join2, slen, hs, Nat.pow_succ]
    omega
  | .bi w t u, h => by
    have h2 := Tm.txt_len t h.2.1
    have h3 := Tm.txt_len u h.2.2
    have h1 := h.1
    have hs : ((" " : Str)).length = 1 := by decide +kernel
    have p1 : 2 ^ t.dep ≤ 2 ^ (max t.dep u.dep) := Nat.pow_le_pow_right (by omega) (by omega)
    have p2 : 2 ^ u.dep ≤ 2 ^ (max t.dep u.dep) := Nat.pow_le_pow_right (by omega) (by omega)
    simp only [Tm.txt, Tm.dep, join3, slen, hs, Nat.pow_succ]
    omega
theorem Ty.short {N : Ns} (ok : ∀ n ∈ N, n.1.length ≤ 8) : ∀ {t : Tm} {p : Nat}, Ty N t p → t.short
  | _, _, .nm h => ok _ h
  | _, _, .not h => ⟨by decide +kernel, h.short ok⟩
  | _, _, .both h g => ⟨by decide +kernel, h.short ok, g.short ok⟩
  | _, _, .either h g => ⟨by decide +kernel, h.short ok, g.short ok⟩
  | _, _, .chain h g => ⟨by decide +kernel, h.short ok, g.short ok⟩
  | _, _, .turned h => ⟨by decide +kernel, h.short ok⟩
  | _, _, .some h => ⟨by decide +kernel, h.short ok⟩
/-! ### fields -/
structure Fd where
  nts : Ns
  sh : List Tm
  mn : Nat
def Fd.e (F : Fd) : PyData := .tuple [nsE F.nts, .tuple (F.sh.map Tm.e), nat F.mn]
def byT (ts : List Tm) : List Tm := (ksort PyData.str (keys (kfill Tm.txt id ts))).map fun k => (klook (kfill Tm.txt id ts) k).getD default
def allT (N : Ns) (sh : List Tm) : List Tm := N.map (fun n => Tm.nm n.1) ++ sh.flatMap Tm.parts
def tmsOf (N : Ns) (sh : List Tm) : List Tm := byT (allT N sh)
/-- rows of so many unknowns -/
def rws (many : Nat) : Nat → List (List Nat)
  | 0 => [[]]
  | k + 1 => (rws many k).flatMap fun r => (List.range many).map fun o => r ++ [o]
abbrev At := Tm × List Nat
def atE (a : At) : PyData := .tuple [a.1.e, nats a.2]
def atomsOf (N : Ns) (sh : List Tm) (mn : Nat) (ts : List Tm) : List At := ts.flatMap fun t => (rws mn (wd N t)).map fun r => (t, r)
def Fd.tms (F : Fd) : List Tm := tmsOf F.nts F.sh
def Fd.atoms (F : Fd) (bare : Bool) : List At := atomsOf F.nts F.sh F.mn (F.tms.filter fun t => !bare || decide (t ∈ F.sh))
structure FdOk (F : Fd) : Prop where
  ns : NsOk F.nts
  s0 : 1 ≤ F.sh.length
  s1 : F.sh.length ≤ 4
  snd : F.sh.Nodup
  ty : ∀ t ∈ F.sh, ∃ p, Ty F.nts t p
  dp : ∀ t ∈ F.sh, t.dep ≤ 3
  m0 : 1 ≤ F.mn
  m1 : F.mn ≤ 3
  a1 : (F.atoms true).length ≤ 10
  a0 : (F.atoms false).length ≤ 40
end Mz

set_option Elab.async false
set_option linter.all false
set_option maxRecDepth 100000
set_option maxHeartbeats 1000000
set_option autoImplicit false
namespace Mz
open PySem L2 PySem.Spec PD PyProof.Rows PySem.W
/-! ### texts tell their terms -/
def Good : Tm → Prop
  | .nm s => (∀ c ∈ s.cps.toList, c ≠ 32) ∧ s ∉ words
  | .un w t => w ∈ (["not", "turned", "some"] : List Str) ∧ Good t
  | .bi w t u => w ∈ (["both", "either", "chain"] : List Str) ∧ Good t ∧ Good u
def Tm.cs (t : Tm) : List Nat := t.txt.cps.toList
theorem cs_nm {s : Str} : (Tm.nm s).cs = s.cps.toList := rfl
theorem app_cs (a b : Str) : (a ++ b).cps.toList = a.cps.toList ++ b.cps.toList := by
  show (a.cps ++ b.cps).toList = _
  rw [Array.toList_append]
theorem sp_cs : ((" " : Str)).cps.toList = [32] := by decide +kernel
theorem cs_un {w : Str} {t : Tm} : (Tm.un w t).cs = w.cps.toList ++ 32 :: t.cs := by
  unfold Tm.cs
  rw [Tm.txt, join2, app_cs, app_cs, sp_cs, List.append_assoc]; rfl
theorem cs_bi {w : Str} {t u : Tm} : (Tm.bi w t u).cs = w.cps.toList ++ 32 :: (t.cs ++ 32 :: u.cs) := by
  unfold Tm.cs
  rw [Tm.txt, join3, app_cs, app_cs, app_cs, app_cs, sp_cs, List.append_assoc, List.append_assoc]; rfl
def Stop (r : List Nat) : Prop := r = [] ∨ ∃ q, r = 32 :: q
theorem tok_eq : ∀ {w v r s : List Nat}, (∀ c ∈ w, c ≠ 32) → (∀ c ∈ v, c ≠ 32) → Stop r → Stop s → w ++ r = v ++ s → w = v ∧ r = s
  | [], [], r, s, _, _, _, _, h => ⟨rfl, h⟩
  | [], c :: v, r, s, _, hv, hr, _, h => by
    rcases hr with rfl | ⟨q, rfl⟩
    · cases h
    · simp only [List.nil_append, List.cons_append, List.cons.injEq] at h
      exact absurd h.1.symm (hv c (by simp))
  | c :: w, [], r, s, hw, _, _, hs, h => by
    rcases hs with rfl | ⟨q, rfl⟩
    · cases h
    · simp only [List.nil_append, List.cons_append, List.cons.injEq] at h
      exact absurd h.1 (hw c (by simp))
  | c :: w, d :: v, r, s, hw, hv, hr, hs, h => by
    simp only [List.cons_append, List.cons.injEq] at h
    obtain ⟨h1, h2⟩ := tok_eq (fun x hx => hw x (by simp [hx])) (fun x hx => hv x (by simp [hx])) hr hs h.2
    exact ⟨by rw [h.1, h1], h2⟩
theorem words_low : ∀ w ∈ words, ∀ c ∈ w.cps.toList, c ≠ 32 := by decide +kernel
theorem un_words : ∀ w ∈ (["not", "turned", "some"] : List Str), w ∈ words ∧ w ∉ (["both", "either", "chain"] : List Str) := by decide +kernel
theorem bi_words : ∀ w ∈ (["both", "either", "chain"] : List Str), w ∈ words ∧ w ∉ (["not", "turned", "some"] : List Str) := by decide +kernel
theorem str_cs {a b : Str} (h : a.cps.toList = b.cps.toList) : a = b := str_of_cps h
theorem cs_inj : ∀ {t u : Tm} {r s : List Nat}, Good t → Good u → Stop r → Stop s → t.cs ++ r = u.cs ++ s → t = u ∧ r = s
  | .nm a, .nm b, r, s, ht, hu, hr, hs, h => by
    obtain ⟨h1, h2⟩ := tok_eq ht.1 hu.1 hr hs h
    exact ⟨by rw [str_cs h1], h2⟩
  | .nm a, .un w u, r, s, ht, hu, hr, hs, h => by
    rw [cs_un, List.append_assoc] at h
    have hw := un_words w hu.1
    obtain ⟨h1, _⟩ := tok_eq ht.1 (words_low w hw.1) hr (.inr ⟨_, rfl⟩) h
    exact absurd hw.1 (str_cs h1 ▸ ht.2)
  | .nm a, .bi w u v, r, s, ht, hu, hr, hs, h => by
    rw [cs_bi, List.append_assoc] at h
    have hw := bi_words w hu.1
    obtain ⟨h1, _⟩ := tok_eq ht.1 (words_low w hw.1) hr (.inr ⟨_, rfl⟩) h
    exact absurd hw.1 (str_cs h1 ▸ ht.2)
  | .un w t, .nm b, r, s, ht, hu, hr, hs, h => by
    rw [cs_un, List.append_assoc] at h
    have hw := un_words w ht.1
    obtain ⟨h1, _⟩ := tok_eq (words_low w hw.1) hu.1 (.inr ⟨_, rfl⟩) hs h
    exact absurd (str_cs h1 ▸ hw.1) hu.2
  | .bi w t v, .nm b, r, s, ht, hu, hr, hs, h => by
    rw [cs_bi, List.append_assoc] at h
    have hw := bi_words w ht.1
    obtain ⟨h1, _⟩ := tok_eq (words_low w hw.1) hu.1 (.inr ⟨_, rfl⟩) hs h
    exact absurd (str_cs h1 ▸ hw.1) hu.2
  | .un w t, .un x u, r, s, ht, hu, hr, hs, h => by
    rw [cs_un, cs_un, List.append_assoc, List.append_assoc] at h
    obtain ⟨h1, h2⟩ := tok_eq (words_low w (un_words w ht.1).1) (words_low x (un_words x hu.1).1) (.inr ⟨_, rfl⟩) (.inr ⟨_, rfl⟩) h
    obtain ⟨h3, h4⟩ := cs_inj ht.2 hu.2 hr hs (List.cons.inj h2).2
    exact ⟨by rw [str_cs h1, h3], h4⟩
  | .un w t, .bi x u v, r, s, ht, hu, hr, hs, h => by
    rw [cs_un, cs_bi, List.append_assoc, List.append_assoc] at h
    obtain ⟨h1, h2⟩ := tok_eq (words_low w (un_words w ht.1).1) (words_low x (bi_words x hu.1).1) (.inr ⟨_, rfl⟩) (.inr ⟨_, rfl⟩) h
    exact absurd hu.1 (str_cs h1 ▸ (un_words w ht.1).2)
  | .bi w t v, .un x u, r, s, ht, hu, hr, hs, h => by
    rw [cs_un, cs_bi, List.append_assoc, List.append_assoc] at h
    obtain ⟨h1, h2⟩ := tok_eq (words_low w (bi_words w ht.1).1) (words_low x (un_words x hu.1).1) (.inr ⟨_, rfl⟩) (.inr ⟨_, rfl⟩) h
    exact absurd hu.1 (str_cs h1 ▸ (bi_words w ht.1).2)
  | .bi w t v, .bi x u y, r, s, ht, hu, hr, hs, h => by
    rw [cs_bi, cs_bi, List.append_assoc, List.append_assoc] at h
    obtain ⟨h1, h2⟩ := tok_eq (words_low w (bi_words w ht.1).1) (words_low x (bi_words x hu.1).1) (.inr ⟨_, rfl⟩) (.inr ⟨_, rfl⟩) h
    have h2 : (t.cs ++ 32 :: v.cs) ++ r = (u.cs ++ 32 :: y.cs) ++ s := (List.cons.inj h2).2
    rw [List.append_assoc, List.append_assoc] at h2
    obtain ⟨h3, h4⟩ := cs_inj ht.2.1 hu.2.1 (.inr ⟨_, rfl⟩) (.inr ⟨_, rfl⟩) h2
    obtain ⟨h5, h6⟩ := cs_inj ht.2.2 hu.2.2 hr hs (List.cons.inj h4).2
    exact ⟨by rw [str_cs h1, h3, h5], h6⟩
theorem txt_inj {t u : Tm} (ht : Good t) (hu : Good u) (h : t.txt = u.txt) : t = u := by
  have : t.cs ++ [] = u.cs ++ [] := by unfold Tm.cs; rw [h]
  exact (cs_inj ht hu (.inl rfl) (.inl rfl) this).1
theorem NameOk.sp {s : Str} (h : NameOk s) : ∀ c ∈ s.cps.toList, c ≠ 32 := fun c hc => by
  have := h.low c hc
  omega
theorem Ty.good {N : Ns} (ok : ∀ n ∈ N, NameOk n.1) : ∀ {t : Tm} {p : Nat}, Ty N t p → Good t
  | _, _, .nm h => ⟨(ok _ h).sp, (ok _ h).nw⟩
  | _, _, .not h => ⟨by simp, h.good ok⟩
  | _, _, .both h g => ⟨by simp, h.good ok, g.good ok⟩
  | _, _, .either h g => ⟨by simp, h.good ok, g.good ok⟩
  | _, _, .chain h g => ⟨by simp, h.good ok, g.good ok⟩
  | _, _, .turned h => ⟨by simp, h.good ok⟩
  | _, _, .some h => ⟨by simp, h.good ok⟩
/-- the parts of a term are terms -/
theorem Ty.parts {N : Ns} : ∀ {t : Tm} {p : Nat}, Ty N t p → ∀ u ∈ t.parts, ∃ q, Ty N u q
  | _, _, .nm h, u, hu => by
    simp only [Tm.parts, List.mem_singleton] at hu
    subst hu; exact ⟨_, .nm h⟩
  | _, _, .not h, u, hu => by
    simp only [Tm.parts, List.mem_cons] at hu
    rcases hu with rfl | hu
    · exact ⟨_, .not h⟩
    · exact h.parts u hu
  | _, _, .turned h, u, hu => by
    simp only [Tm.parts, List.mem_cons] at hu
    rcases hu with rfl | hu
    · exact ⟨_, .turned h⟩
    · exact h.parts u hu
  | _, _, .some h, u, hu => by
    simp only [Tm.parts, List.mem_cons] at hu
    rcases hu with rfl | hu
    · exact ⟨_, .some h⟩
    · exact h.parts u hu
  | _, _, .both h g, u, hu => by
    simp only [Tm.parts, List.mem_cons, List.mem_append] at hu
    rcases hu with rfl | hu | hu
    · exact ⟨_, .both h g⟩
    · exact h.parts u hu
    · exact g.parts u hu
  | _, _, .either h g, u, hu => by
    simp only [Tm.parts, List.mem_cons, List.mem_append] at hu
    rcases hu with rfl | hu | hu
    · exact ⟨_, .either h g⟩
    · exact h.parts u hu
    · exact g.parts u hu
  | _, _, .chain h g, u, hu => by
    simp only [Tm.parts, List.mem_cons, List.mem_append] at hu
    rcases hu with rfl | hu | hu
    · exact ⟨_, .chain h g⟩
    · exact h.parts u hu
    · exact g.parts u hu
theorem self_part (t : Tm) : t ∈ t.parts := by cases t <;> simp [Tm.parts]
/-! ### terms by their texts -/
def TxInj (ts : List Tm) : Prop := ∀ t ∈ ts, ∀ u ∈ ts, t.txt = u.txt → t = u
noncomputable def ofTxt (ts : List Tm) (k : Str) : Tm := (ts.find? fun t => decide (t.txt = k)).getD default
theorem ofTxt_eq {ts : List Tm} (h : TxInj ts) {t : Tm} (ht : t ∈ ts) : ofTxt ts t.txt = t := by
  unfold ofTxt
  cases e : ts.find? fun u => decide (u.txt = t.txt) with
  | none =>
    have := List.find?_eq_none.mp e t ht
    simp at this
  | some u =>
    have h1 := List.find?_some e
    have h2 := List.mem_of_find?_eq_some e
    exact h u h2 t ht (by simpa using h1)
theorem byT_eq {ts : List Tm} (h : TxInj ts) : byT ts = (ksort PyData.str (keys (kfill Tm.txt id ts))).map (ofTxt ts) := by
  unfold byT
  apply List.map_congr_left
  intro k hk
  have hk := kfill_mem.mp (ksort_mem.mp hk)
  rw [kfill_get (ofTxt ts) (fun x hx => by rw [ofTxt_eq h hx]; rfl) hk]; rfl
theorem keys_fill {ts : List Tm} (h : TxInj ts) {k : Str} (hk : k ∈ keys (kfill Tm.txt id ts)) : (ofTxt ts k).txt = k ∧ ofTxt ts k ∈ ts := by
  have hk := kfill_mem.mp hk
  rw [List.mem_map] at hk
  obtain ⟨t, ht, rfl⟩ := hk
  rw [ofTxt_eq h ht]
  exact ⟨rfl, ht⟩
theorem byT_mem {ts : List Tm} (h : TxInj ts) {t : Tm} : t ∈ byT ts ↔ t ∈ ts := by
  rw [byT_eq h, List.mem_map]
  constructor
  · rintro ⟨k, hk, rfl⟩
    exact (keys_fill h (ksort_mem.mp hk)).2
  · intro ht
    refine ⟨t.txt, ksort_mem.mpr (kfill_mem.mpr (List.mem_map_of_mem ht)), ofTxt_eq h ht⟩
theorem byT_rise {ts : List Tm} (h : TxInj ts) : (byT ts).Pairwise fun t u => dataLt (.str t.txt) (.str u.txt) = true := by
  rw [byT_eq h, List.pairwise_map]
  refine List.Pairwise.imp_of_mem (fun {a b} ha hb hab => ?_) (ksort_lt kfill_nodup (tot_of fun a _ b _ e => toks_str e))
  rw [(keys_fill h (ksort_mem.mp ha)).1, (keys_fill h (ksort_mem.mp hb)).1]
  exact hab
theorem byT_nodup {ts : List Tm} (h : TxInj ts) : (byT ts).Nodup :=
  (byT_rise h).imp fun hab e => by subst e; rw [lt_irr] at hab; cases hab
theorem byT_len {ts : List Tm} (h : TxInj ts) (nd : ts.Nodup) : (byT ts).length = ts.length := by
  have p : (byT ts).Perm ts := (List.perm_ext_iff_of_nodup (byT_nodup h) nd).mpr fun t => byT_mem h
  exact p.length_eq
theorem byT_le {ts : List Tm} : (byT ts).length ≤ ts.length := by
  unfold byT
  rw [List.length_map, ksort_len]
  have := kfill_len (kf := Tm.txt) (vf := id) (xs := ts)
  unfold keys
  rw [List.length_map]; exact this
end Mz

set_option Elab.async false
set_option linter.all false
set_option maxRecDepth 100000
set_option maxHeartbeats 1000000
set_option autoImplicit false
namespace Mz
open PySem L2 PySem.Spec PD PyProof.Rows PySem.W
/-! ### atoms -/
theorem At.e_inj {a b : At} (h : atE a = atE b) : a = b := by
  simp only [atE, nats, PyData.tuple.injEq, List.cons.injEq, and_true] at h
  have h1 := Tm.e_inj h.1
  have h2 : ∀ {r s : List Nat}, r.map nat = s.map nat → r = s := by
    intro r
    induction r with
    | nil => intro s h; cases s with | nil => rfl | cons _ _ => cases h
    | cons x r ih =>
      intro s h
      cases s with
      | nil => cases h
      | cons y s =>
        simp only [List.map_cons, List.cons.injEq, nat, PyData.int.injEq, Int.natCast_inj] at h
        rw [h.1, ih h.2]
  exact Prod.ext h1 (h2 h.2)
theorem At.nk_inj {a b : At} (h : nk (atE a) = nk (atE b)) : a = b := by
  simp only [atE, nk, nks, NestedKey.tup.injEq, List.cons.injEq, and_true] at h
  exact Prod.ext (Tm.nk_inj h.1) (nestNats.inj _ _ h.2)
def AtOk (a : At) : Prop := a.1.dep ≤ 3
theorem nestAt : NestK atE AtOk := by
  refine ⟨fun a h => ?_, fun a b h => At.nk_inj h⟩
  have h1 : hsh (atE a) = true := by
    simp only [atE, hsh, hshs, Tm.hsh_e, nats, hsh_nats, Bool.and_self]
  have h2 : (nk (atE a)).depth ≤ 8 := by
    have := Tm.nk_dep a.1
    have h : a.1.dep ≤ 3 := h
    have e : (nk (nats a.2)).depth = 1 := by
      show (NestedKey.tup (nks (a.2.map nat))).depth = 1
      rw [nk_nats, NestedKey.depth, depth_nums]
    simp only [atE, nk, nks, NestedKey.depth, NestedKey.depthAll] at e ⊢
    have e2 : (nk (nats a.2)).depth = 1 := by
      show (NestedKey.tup (nks (a.2.map nat))).depth = 1
      rw [nk_nats, NestedKey.depth, depth_nums]
    omega
  unfold keyOkN
  rw [h1, decide_eq_true h2]; rfl
theorem at_plain (a : At) : (atE a).plain = true := by
  simp only [atE, PyData.plain, PyData.plainAll, Tm.plain, nats_plain, Bool.and_self]
theorem at_depth {a : At} (h : AtOk a) : (atE a).depth ≤ 4 := by
  have := Tm.depth a.1
  have e := nats_depth (r := a.2)
  have h : a.1.dep ≤ 3 := h
  simp only [atE, PyData.depth, PyData.depthAll]
  omega
theorem at_ok {a : At} (h : AtOk a) : okD (atE a) = true := by
  have := at_depth h
  unfold okD
  rw [at_plain, decide_eq_true (show (atE a).depth ≤ 64 by omega)]; rfl
theorem eqv_nats : ∀ {r s : List Nat}, PyData.eqvAll (r.map nat) (s.map nat) = decide (r = s)
  | [], [] => by simp [PyData.eqvAll]
  | [], _ :: _ => by simp [PyData.eqvAll]
  | _ :: _, [] => by simp [PyData.eqvAll]
  | x :: r, y :: s => by
    rw [List.map_cons, List.map_cons, PyData.eqvAll, eqv_nats (r := r) (s := s)]
    have : PyData.eqv (nat x) (nat y) = decide (x = y) := by
      show PyData.eqv (.int x) (.int y) = _
      rw [eqv_int]; exact decide_eq_decide.mpr (by omega)
    rw [this]
    simp
theorem at_eqv {a b : At} : PyData.eqv (atE a) (atE b) = decide (a = b) := by
  obtain ⟨t, r⟩ := a
  obtain ⟨u, s⟩ := b
  simp only [atE, eqv_tt, PyData.eqvAll, Tm.eqv, nats, eqv_nats, Bool.and_true]
  simp
/-! ### fields that are such -/
theorem FdOk.n8 {F : Fd} (h : FdOk F) : ∀ n ∈ F.nts, n.1.length ≤ 8 := fun n hn => (h.ns.ok n hn).1.l1
theorem FdOk.nok {F : Fd} (h : FdOk F) : ∀ n ∈ F.nts, NameOk n.1 := fun n hn => (h.ns.ok n hn).1
theorem NsOk.p12 {N : Ns} (h : NsOk N) : ∀ n ∈ N, n.2 = 1 ∨ n.2 = 2 := fun n hn => (h.ok n hn).2
/-- what the terms of a field need -/
structure ShT (N : Ns) (sh : List Tm) : Prop where
  ns : NsOk N
  sl : sh.length ≤ 10
  ty : ∀ t ∈ sh, ∃ p, Ty N t p
  dp : ∀ t ∈ sh, t.dep ≤ 3
theorem FdOk.shT {F : Fd} (h : FdOk F) : ShT F.nts F.sh := ⟨h.ns, by have := h.s1; omega, h.ty, h.dp⟩
section
variable {N : Ns} {sh : List Tm}
theorem part_dep : ∀ {t : Tm}, ∀ u ∈ t.parts, u.dep ≤ t.dep
  | .nm s, u, hu => by
    simp only [Tm.parts, List.mem_singleton] at hu
    subst hu; exact Nat.le_refl _
  | .un w t, u, hu => by
    simp only [Tm.parts, List.mem_cons] at hu
    rcases hu with rfl | hu
    · exact Nat.le_refl _
    · have := part_dep u hu
      simp only [Tm.dep]; omega
  | .bi w t v, u, hu => by
    simp only [Tm.parts, List.mem_cons, List.mem_append] at hu
    rcases hu with rfl | hu | hu
    · exact Nat.le_refl _
    · have := part_dep u hu
      simp only [Tm.dep]; omega
    · have := part_dep u hu
      simp only [Tm.dep]; omega
theorem ShT.all (h : ShT N sh) : ∀ t ∈ allT N sh, (∃ p, Ty N t p) ∧ t.dep ≤ 3 := by
  intro t ht
  simp only [allT, List.mem_append, List.mem_map, List.mem_flatMap] at ht
  rcases ht with ⟨n, hn, rfl⟩ | ⟨u, hu, ht⟩
  · exact ⟨⟨n.2, .nm hn⟩, by simp [Tm.dep]⟩
  · obtain ⟨p, hp⟩ := h.ty u hu
    have := part_dep t ht
    have := h.dp u hu
    exact ⟨hp.parts t ht, by omega⟩
theorem inj_of {ts : List Tm} (ok : ∀ n ∈ N, NameOk n.1) (h : ∀ t ∈ ts, ∃ p, Ty N t p) : TxInj ts := fun t ht u hu e => by
  obtain ⟨p, hp⟩ := h t ht
  obtain ⟨q, hq⟩ := h u hu
  exact txt_inj (hp.good ok) (hq.good ok) e
theorem ShT.nok (h : ShT N sh) : ∀ n ∈ N, NameOk n.1 := fun n hn => (h.ns.ok n hn).1
theorem ShT.inj (h : ShT N sh) : TxInj (allT N sh) := inj_of h.nok fun t ht => (h.all t ht).1
theorem ShT.tms_mem (h : ShT N sh) {t : Tm} : t ∈ tmsOf N sh ↔ t ∈ allT N sh := byT_mem h.inj
theorem ShT.tms (h : ShT N sh) : ∀ t ∈ tmsOf N sh, (∃ p, Ty N t p) ∧ t.dep ≤ 3 := fun t ht => h.all t (h.tms_mem.mp ht)
theorem ShT.sub (h : ShT N sh) : ∀ t ∈ sh, t ∈ tmsOf N sh := fun t ht => h.tms_mem.mpr (by
  simp only [allT, List.mem_append, List.mem_flatMap]
  exact .inr ⟨t, ht, self_part t⟩)
theorem ShT.rise (h : ShT N sh) : (tmsOf N sh).Pairwise fun t u => dataLt (.str t.txt) (.str u.txt) = true := byT_rise h.inj
theorem ShT.nd (h : ShT N sh) : (tmsOf N sh).Nodup := byT_nodup h.inj
end
/-! ### rows of unknowns rise -/
theorem dlt_cons {x y : Nat} {r s : List Nat} : dataLt (nats (x :: r)) (nats (y :: s)) = if x = y then dataLt (nats r) (nats s) else decide (x < y) := by
  unfold nats
  rw [dataLt_tuple, List.map_cons, List.map_cons, dataLt_cons (by rfl), ← dataLt_tuple]
  show (if PyData.eqv (.int x) (.int y) = true then _ else dataLt (.int x) (.int y)) = _
  rw [eqv_int]
  rw [dataLt_int]
  by_cases h : x = y
  · rw [if_pos (decide_eq_true (by omega)), if_pos h]
  · rw [if_neg (by simp; omega), if_neg h]
    exact decide_eq_decide.mpr (by omega)
theorem rws_1 (m : Nat) : rws m 1 = (List.range m).map fun o => [o] := by simp [rws]
theorem rws_2 (m : Nat) : rws m 2 = (List.range m).flatMap fun a => (List.range m).map fun b => [a, b] := by
  simp [rws, List.flatMap_map]
theorem range_lt (m : Nat) : (List.range m).Pairwise fun a b => a < b := List.pairwise_lt_range
theorem rws_rise {m p : Nat} (hp : p = 1 ∨ p = 2) : (rws m p).Pairwise fun r s => dataLt (nats r) (nats s) = true := by
  rcases hp with rfl | rfl
  · rw [rws_1, List.pairwise_map]
    refine (range_lt m).imp fun {a b} h => ?_
    rw [dlt_cons, if_neg (by omega), decide_eq_true h]
  · rw [rws_2, List.pairwise_flatMap]
    refine ⟨fun a _ => ?_, (range_lt m).imp fun {a b} h => ?_⟩
    · rw [List.pairwise_map]
      refine (range_lt m).imp fun {c d} h => ?_
      rw [dlt_cons, if_pos rfl, dlt_cons, if_neg (by omega), decide_eq_true h]
    · intro x hx y hy
      rw [List.mem_map] at hx hy
      obtain ⟨c, _, rfl⟩ := hx
      obtain ⟨d, _, rfl⟩ := hy
      rw [dlt_cons, if_neg (by omega), decide_eq_true h]
/-- by what atoms stand -/
abbrev AK := Str × List Nat
def akE (k : AK) : PyData := .tuple [.str k.1, nats k.2]
def akOf (a : At) : AK := (a.1.txt, a.2)
theorem akE_lt {k j : AK} : dataLt (akE k) (akE j) = if k.1 = j.1 then dataLt (nats k.2) (nats j.2) else dataLt (.str k.1) (.str j.1) := by
  unfold akE
  rw [dataLt_tuple, dataLt_cons (by rfl)]
  have e : PyProof.Rows.lexLt itemOrd (keyToksAll [nats k.2]) (keyToksAll [nats j.2]) = dataLt (nats k.2) (nats j.2) := by
    rw [dataLt_cons nats_alike]
    by_cases h : PyData.eqv (nats k.2) (nats j.2) = true
    · rw [if_pos h]
      have : k.2 = j.2 := by
        unfold nats at h
        rw [eqv_tt, eqv_nats] at h
        exact of_decide_eq_true h
      rw [this, lt_irr]
      exact lex_irrefl (O := itemOrd) _
    · rw [if_neg h]
  rw [e, eqv_str]
  by_cases h : k.1 = j.1 <;> simp [h]
section
variable {N : Ns} {sh : List Tm} {m : Nat}
theorem atoms_rise {ts : List Tm} (ok : NsOk N) (ht : ∀ t ∈ ts, ∃ p, Ty N t p) (h : ts.Pairwise fun t u => dataLt (.str t.txt) (.str u.txt) = true) : (atomsOf N sh m ts).Pairwise fun a b => dataLt (akE (akOf a)) (akE (akOf b)) = true := by
  unfold atomsOf
  rw [List.pairwise_flatMap]
  refine ⟨fun t hm => ?_, h.imp fun {t u} hlt => ?_⟩
  · rw [List.pairwise_map]
    obtain ⟨p, hp⟩ := ht t hm
    have : wd N t = 1 ∨ wd N t = 2 := by rw [hp.wd ok.nd]; exact hp.p12 ok.p12
    refine (rws_rise this).imp fun {r s} h => ?_
    rw [akE_lt, if_pos (show (akOf (t, r)).1 = (akOf (t, s)).1 from rfl)]; exact h
  · intro a ha b hb
    rw [List.mem_map] at ha hb
    obtain ⟨r, _, rfl⟩ := ha
    obtain ⟨s, _, rfl⟩ := hb
    rw [akE_lt, if_neg (show ¬ (akOf (t, r)).1 = (akOf (u, s)).1 from lt_str hlt)]; exact hlt
theorem atoms_nd {ts : List Tm} (ok : NsOk N) (ht : ∀ t ∈ ts, ∃ p, Ty N t p) (h : ts.Pairwise fun t u => dataLt (.str t.txt) (.str u.txt) = true) : (atomsOf N sh m ts).Nodup :=
  (atoms_rise ok ht h).imp fun hab e => by subst e; rw [lt_irr] at hab; cases hab
theorem atoms_mem {ts : List Tm} {a : At} : a ∈ atomsOf N sh m ts ↔ a.1 ∈ ts ∧ a.2 ∈ rws m (wd N a.1) := by
  unfold atomsOf
  simp only [List.mem_flatMap, List.mem_map]
  constructor
  · rintro ⟨t, ht, r, hr, rfl⟩
    exact ⟨ht, hr⟩
  · rintro ⟨h1, h2⟩
    exact ⟨a.1, h1, a.2, h2, rfl⟩
end
theorem rws_mem {m : Nat} : ∀ {p : Nat} {r : List Nat}, r ∈ rws m p ↔ r.length = p ∧ ∀ o ∈ r, o < m
  | 0, r => by
    simp only [rws, List.mem_singleton]
    constructor
    · rintro rfl; simp
    · rintro ⟨h, _⟩; exact List.length_eq_zero_iff.mp h
  | p + 1, r => by
    simp only [rws, List.mem_flatMap, List.mem_map, List.mem_range]
    constructor
    · rintro ⟨s, hs, o, ho, rfl⟩
      obtain ⟨h1, h2⟩ := rws_mem.mp hs
      refine ⟨by simp [h1], fun x hx => ?_⟩
      rw [List.mem_append, List.mem_singleton] at hx
      rcases hx with hx | rfl
      · exact h2 x hx
      · exact ho
    · rintro ⟨h1, h2⟩
      have hne : r ≠ [] := fun e => by rw [e] at h1; cases h1
      refine ⟨r.dropLast, rws_mem.mpr ⟨by rw [List.length_dropLast, h1]; rfl, fun x hx => h2 x (List.dropLast_subset r hx)⟩, r.getLast hne, h2 _ (List.getLast_mem hne), List.dropLast_concat_getLast hne⟩
namespace FdOk
variable {F : Fd}
theorem rise (h : FdOk F) {bare : Bool} : (F.atoms bare).Pairwise fun a b => dataLt (akE (akOf a)) (akE (akOf b)) = true :=
  atoms_rise h.ns (fun t ht => (h.shT.tms t (List.mem_filter.mp ht).1).1) (h.shT.rise.filter _)
theorem nd (h : FdOk F) {bare : Bool} : (F.atoms bare).Nodup := h.rise.imp fun hab e => by subst e; rw [lt_irr] at hab; cases hab
theorem mem (h : FdOk F) {a : At} : a ∈ F.atoms false ↔ a.1 ∈ F.tms ∧ a.2 ∈ rws F.mn (wd F.nts a.1) := by
  unfold Fd.atoms
  rw [atoms_mem, List.mem_filter]
  simp
theorem mem1 (h : FdOk F) {a : At} : a ∈ F.atoms true ↔ a.1 ∈ F.sh ∧ a.2 ∈ rws F.mn (wd F.nts a.1) := by
  unfold Fd.atoms
  rw [atoms_mem, List.mem_filter]
  simp only [Bool.not_true, Bool.false_or, decide_eq_true_eq]
  exact ⟨fun q => ⟨q.1.2, q.2⟩, fun q => ⟨⟨h.shT.sub _ q.1, q.1⟩, q.2⟩⟩
theorem atOk (h : FdOk F) {a : At} (ha : a ∈ F.atoms false) : AtOk a := (h.shT.tms _ (h.mem.mp ha).1).2
theorem sub (h : FdOk F) {a : At} (ha : a ∈ F.atoms true) : a ∈ F.atoms false := by
  rw [h.mem]; rw [h.mem1] at ha
  exact ⟨h.shT.sub _ ha.1, ha.2⟩
end FdOk
end Mz

set_option Elab.async false
set_option linter.all false
set_option maxRecDepth 100000
set_option maxHeartbeats 1000000
set_option autoImplicit false
namespace Mz
open PySem L2 PySem.Spec PD PyProof.Rows PySem.W
instance : Inhabited (List Nat) := ⟨[]⟩
/-! ### places in a list -/
section
variable {α : Type} [DecidableEq α]
def idx (A : List α) (a : α) : Nat := A.findIdx fun b => decide (b = a)
theorem idx_lt {A : List α} {a : α} (h : a ∈ A) : idx A a < A.length := by
  unfold idx
  exact List.findIdx_lt_length_of_exists ⟨a, h, by simp⟩
theorem idx_get {A : List α} {a : α} (h : a ∈ A) : A[idx A a]? = some a := by
  have hl := idx_lt h
  have : decide (A[idx A a] = a) = true := List.findIdx_getElem (p := fun b => decide (b = a)) (xs := A)
  rw [List.getElem?_eq_getElem hl, of_decide_eq_true this]
theorem idx_inj {A : List α} {a b : α} (ha : a ∈ A) (hb : b ∈ A) (h : idx A a = idx A b) : a = b := by
  have h1 := idx_get ha
  rw [h, idx_get hb] at h1
  exact (Option.some.inj h1).symm
theorem idx_nd {A : List α} (nd : A.Nodup) {i : Nat} {a : α} (h : A[i]? = some a) : idx A a = i := by
  have hi := (List.getElem?_eq_some_iff.mp h).1
  have e := (List.getElem?_eq_some_iff.mp h).2
  have hm : a ∈ A := e ▸ List.getElem_mem hi
  have h2 := idx_get hm
  have hl := idx_lt hm
  have e2 := (List.getElem?_eq_some_iff.mp h2).2
  exact (List.getElem_inj nd).mp (e2.trans e.symm)
/-- places rise along the list -/
theorem idx_rise {A l : List α} (nd : A.Nodup) (h : l.Sublist A) : (l.map (idx A)).Pairwise (· < ·) := by
  have key : (A.map (idx A)).Pairwise (· < ·) := by
    rw [List.pairwise_map, List.pairwise_iff_getElem]
    intro i j hi hj hij
    rw [idx_nd nd (List.getElem?_eq_getElem hi), idx_nd nd (List.getElem?_eq_getElem hj)]
    exact hij
  exact key.sublist (h.map _)
theorem sub_filter {A l : List α} (nd : A.Nodup) (h : l.Sublist A) : A.filter (fun a => decide (a ∈ l)) = l := by
  induction h with
  | slnil => rfl
  | @cons l A a h ih =>
    rw [List.nodup_cons] at nd
    have : a ∉ l := fun z => nd.1 (h.subset z)
    rw [List.filter_cons, decide_eq_false this]
    simp only [Bool.false_eq_true, if_false]
    exact ih nd.2
  | @cons_cons l A a h ih =>
    rw [List.nodup_cons] at nd
    rw [List.filter_cons]
    simp only [List.mem_cons, true_or, decide_true, if_true]
    congr 1
    rw [← ih nd.2]
    apply List.filter_congr
    intro b hb
    have hne : b ≠ a := fun e => nd.1 (e ▸ hb)
    simp only [List.mem_cons, hne, false_or]
    rw [ih nd.2]
/-- of some items of A those, as they stand there -/
def rowBy (A l : List α) : List α := A.filter fun a => decide (a ∈ l)
theorem rowBy_mem {A l : List α} {a : α} : a ∈ rowBy A l ↔ a ∈ A ∧ a ∈ l := by unfold rowBy; simp
theorem rowBy_sub {A l : List α} : (rowBy A l).Sublist A := List.filter_sublist
theorem rowBy_ext {A l m : List α} (h : ∀ a ∈ A, a ∈ l ↔ a ∈ m) : rowBy A l = rowBy A m := by
  unfold rowBy
  apply List.filter_congr
  intro a ha
  simp only [h a ha]
theorem rowBy_len {A l : List α} (nd : l.Nodup) (hA : A.Nodup) (h : ∀ a ∈ l, a ∈ A) : (rowBy A l).length = l.length := by
  have : (rowBy A l).Perm l := (List.perm_ext_iff_of_nodup (hA.filter _) nd).mpr fun a => by show a ∈ rowBy A l ↔ _; rw [rowBy_mem]; exact ⟨fun q => q.2, fun q => ⟨h a q, q⟩⟩
  exact this.length_eq
end
/-! ### renamings -/
def rn (m : Nat) : Nat → List (List Nat)
  | 0 => [[]]
  | k + 1 => (rn m k).flatMap fun r => ((List.range m).filter fun o => !decide (o ∈ r)).map fun o => r ++ [o]
theorem rn_mem {m : Nat} : ∀ {k : Nat} {r : List Nat}, r ∈ rn m k ↔ r.length = k ∧ r.Nodup ∧ ∀ o ∈ r, o < m
  | 0, r => by
    simp only [rn, List.mem_singleton]
    constructor
    · rintro rfl; simp
    · rintro ⟨h, _⟩; exact List.length_eq_zero_iff.mp h
  | k + 1, r => by
    simp only [rn, List.mem_flatMap, List.mem_map, List.mem_filter, List.mem_range, Bool.not_eq_true', decide_eq_false_iff_not]
    constructor
    · rintro ⟨s, hs, o, ⟨ho, hn⟩, rfl⟩
      obtain ⟨h1, h2, h3⟩ := rn_mem.mp hs
      refine ⟨by simp [h1], ?_, fun x hx => ?_⟩
      · rw [List.nodup_append]
        exact ⟨h2, by simp, fun a ha b hb => by simp at hb; subst hb; exact fun e => hn (e ▸ ha)⟩
      · rw [List.mem_append, List.mem_singleton] at hx
        rcases hx with hx | rfl
        · exact h3 x hx
        · exact ho
    · rintro ⟨h1, h2, h3⟩
      have hne : r ≠ [] := fun e => by rw [e] at h1; cases h1
      have e := List.dropLast_concat_getLast hne
      have hnd : (r.dropLast ++ [r.getLast hne]).Nodup := by rw [e]; exact h2
      rw [List.nodup_append] at hnd
      exact ⟨r.dropLast, rn_mem.mpr ⟨by rw [List.length_dropLast, h1]; rfl, hnd.1, fun x hx => h3 x (List.dropLast_subset r hx)⟩, r.getLast hne, ⟨h3 _ (List.getLast_mem hne), fun z => hnd.2.2 _ z _ (by simp) rfl⟩, e⟩
def Ren (m : Nat) (p : List Nat) : Prop := p ∈ rn m m
theorem Ren.ex {m : Nat} {p : List Nat} (h : Ren m p) : p.length = m ∧ p.Nodup ∧ ∀ o ∈ p, o < m := rn_mem.mp h
def ap (p : List Nat) (o : Nat) : Nat := p.getD o 0
theorem ap_get {p : List Nat} {o : Nat} (h : o < p.length) : ap p o = p[o] := by
  unfold ap
  rw [List.getD_eq_getElem?_getD, List.getElem?_eq_getElem h]; rfl
theorem Ren.lt {m : Nat} {p : List Nat} (h : Ren m p) {o : Nat} (ho : o < m) : ap p o < m := by
  obtain ⟨h1, h2, h3⟩ := h.ex
  rw [ap_get (by omega)]
  exact h3 _ (List.getElem_mem _)
theorem Ren.inj {m : Nat} {p : List Nat} (h : Ren m p) {a b : Nat} (ha : a < m) (hb : b < m) (e : ap p a = ap p b) : a = b := by
  obtain ⟨h1, h2, h3⟩ := h.ex
  rw [ap_get (by omega), ap_get (by omega)] at e
  exact (List.getElem_inj h2).mp e
theorem idRen (m : Nat) : Ren m (List.range m) := rn_mem.mpr ⟨by simp, List.nodup_range, by simp⟩
theorem ap_id {m o : Nat} (h : o < m) : ap (List.range m) o = o := by
  rw [ap_get (by simpa using h), List.getElem_range]
/-- first q, then p -/
def comp (p q : List Nat) : List Nat := q.map (ap p)
theorem Ren.comp {m : Nat} {p q : List Nat} (hp : Ren m p) (hq : Ren m q) : Ren m (comp p q) := by
  obtain ⟨h1, h2, h3⟩ := hq.ex
  refine rn_mem.mpr ⟨by simp [Mz.comp, h1], ?_, ?_⟩
  · unfold Mz.comp List.Nodup
    rw [List.pairwise_map]
    refine List.Pairwise.imp_of_mem (fun {a b} ha hb hab e => hab (hp.inj (h3 a ha) (h3 b hb) e)) h2
  · intro o ho
    unfold Mz.comp at ho
    rw [List.mem_map] at ho
    obtain ⟨x, hx, rfl⟩ := ho
    exact hp.lt (h3 x hx)
theorem ap_comp {m : Nat} {p q : List Nat} (hq : Ren m q) {o : Nat} (ho : o < m) : ap (comp p q) o = ap p (ap q o) := by
  obtain ⟨h1, _, _⟩ := hq.ex
  have h : o < q.length := by omega
  unfold comp
  rw [ap_get (by simpa using h), List.getElem_map, ap_get h]
/-- back again -/
def inv (m : Nat) (p : List Nat) : List Nat := (List.range m).map fun o => idx p o
theorem nd_len {α : Type} [DecidableEq α] : ∀ {l m : List α}, l.Nodup → (∀ a ∈ l, a ∈ m) → l.length ≤ m.length
  | [], _, _, _ => Nat.zero_le _
  | a :: l, m, nd, h => by
    rw [List.nodup_cons] at nd
    have hm := h a (by simp)
    have := nd_len (l := l) (m := m.erase a) nd.2 fun b hb => (List.mem_erase_of_ne (show b ≠ a from fun e => nd.1 (e ▸ hb))).mpr (h b (by simp [hb]))
    have h2 := List.length_erase_of_mem hm
    have h3 : 0 < m.length := List.length_pos_of_mem hm
    rw [List.length_cons]; omega
theorem Ren.mem {m : Nat} {p : List Nat} (h : Ren m p) {o : Nat} (ho : o < m) : o ∈ p := by
  obtain ⟨h1, h2, h3⟩ := h.ex
  refine Decidable.byContradiction fun hn => ?_
  have := nd_len (l := o :: p) (m := List.range m) (List.nodup_cons.mpr ⟨hn, h2⟩) fun x hx => by
    rw [List.mem_cons] at hx
    rcases hx with rfl | hx
    · exact List.mem_range.mpr ho
    · exact List.mem_range.mpr (h3 x hx)
  rw [List.length_cons, List.length_range] at this
  omega
theorem ap_idx {m : Nat} {p : List Nat} (h : Ren m p) {o : Nat} (ho : o < m) : ap p (idx p o) = o := by
  have hm := h.mem ho
  have := idx_get hm
  unfold ap
  rw [List.getD_eq_getElem?_getD, this]; rfl
theorem idx_ap {m : Nat} {p : List Nat} (h : Ren m p) {o : Nat} (ho : o < m) : idx p (ap p o) = o := by
  obtain ⟨h1, h2, _⟩ := h.ex
  exact idx_nd h2 (by rw [ap_get (by omega), List.getElem?_eq_getElem])
theorem Ren.inv {m : Nat} {p : List Nat} (h : Ren m p) : Ren m (inv m p) := by
  obtain ⟨h1, h2, h3⟩ := h.ex
  refine rn_mem.mpr ⟨by simp [Mz.inv], ?_, ?_⟩
  · unfold Mz.inv List.Nodup
    rw [List.pairwise_map]
    refine List.Pairwise.imp_of_mem (fun {a b} ha hb hab e => ?_) (range_lt m)
    rw [List.mem_range] at ha hb
    have : a = b := by rw [← ap_idx h ha, e, ap_idx h hb]
    omega
  · intro o ho
    unfold Mz.inv at ho
    rw [List.mem_map] at ho
    obtain ⟨x, hx, rfl⟩ := ho
    rw [← h1]
    exact idx_lt (h.mem (List.mem_range.mp hx))
theorem ap_inv {m : Nat} {p : List Nat} {o : Nat} (ho : o < m) : ap (inv m p) o = idx p o := by
  unfold inv
  rw [ap_get (by simpa using ho), List.getElem_map, List.getElem_range]
/-! atoms renamed -/
def ren (p : List Nat) (a : At) : At := (a.1, a.2.map (ap p))
theorem ren_comp {m : Nat} {p q : List Nat} (hq : Ren m q) {a : At} (ha : ∀ o ∈ a.2, o < m) : ren (comp p q) a = ren p (ren q a) := by
  unfold ren
  refine Prod.ext rfl ?_
  show a.2.map _ = (a.2.map _).map _
  rw [List.map_map]
  apply List.map_congr_left
  intro o ho
  exact ap_comp hq (ha o ho)
theorem ren_id {m : Nat} {a : At} (ha : ∀ o ∈ a.2, o < m) : ren (List.range m) a = a := by
  unfold ren
  refine Prod.ext rfl ?_
  show a.2.map _ = a.2
  conv => rhs; rw [← List.map_id a.2]
  apply List.map_congr_left
  intro o ho
  exact ap_id (ha o ho)
section
variable {F : Fd}
abbrev Fd.A (F : Fd) : List At := F.atoms false
theorem FdOk.atm (h : FdOk F) {a : At} (ha : a ∈ F.A) : a.2.length = wd F.nts a.1 ∧ ∀ o ∈ a.2, o < F.mn := rws_mem.mp (h.mem.mp ha).2
theorem FdOk.ren (h : FdOk F) {p : List Nat} (hp : Ren F.mn p) {a : At} (ha : a ∈ F.A) : ren p a ∈ F.A := by
  obtain ⟨h1, h2⟩ := h.atm ha
  refine h.mem.mpr ⟨(h.mem.mp ha).1, rws_mem.mpr ⟨by simp [Mz.ren, h1], fun o ho => ?_⟩⟩
  simp only [Mz.ren, List.mem_map] at ho
  obtain ⟨x, hx, rfl⟩ := ho
  exact hp.lt (h2 x hx)
theorem FdOk.ren_inj (h : FdOk F) {p : List Nat} (hp : Ren F.mn p) {a b : At} (ha : a ∈ F.A) (hb : b ∈ F.A) (e : Mz.ren p a = Mz.ren p b) : a = b := by
  have e1 : Mz.ren (inv F.mn p) (Mz.ren p a) = a ∧ Mz.ren (inv F.mn p) (Mz.ren p b) = b := by
    have key : ∀ c ∈ F.A, Mz.ren (inv F.mn p) (Mz.ren p c) = c := fun c hc => by
      obtain ⟨_, h2⟩ := h.atm hc
      rw [← ren_comp hp h2]
      unfold Mz.ren
      refine Prod.ext rfl ?_
      show c.2.map _ = c.2
      conv => rhs; rw [← List.map_id c.2]
      apply List.map_congr_left
      intro o ho
      rw [ap_comp hp (h2 o ho), ap_inv (hp.lt (h2 o ho)), idx_ap hp (h2 o ho)]; rfl
    exact ⟨key a ha, key b hb⟩
  rw [← e1.1, e, e1.2]
/-- a row renamed -/
def Fd.rr (F : Fd) (p : List Nat) (l : List At) : List At := rowBy F.A (l.map (Mz.ren p))
def Fd.spots (F : Fd) (l : List At) : List Nat := l.map (idx F.A)
theorem FdOk.rr_mem (h : FdOk F) {p : List Nat} (hp : Ren F.mn p) {l : List At} (hl : ∀ a ∈ l, a ∈ F.A) {b : At} : b ∈ F.rr p l ↔ ∃ a ∈ l, Mz.ren p a = b := by
  unfold Fd.rr
  rw [rowBy_mem, List.mem_map]
  constructor
  · rintro ⟨_, h2⟩; exact h2
  · rintro ⟨a, ha, rfl⟩; exact ⟨h.ren hp (hl a ha), a, ha, rfl⟩
theorem FdOk.rr_comp (h : FdOk F) {p q : List Nat} (hp : Ren F.mn p) (hq : Ren F.mn q) {l : List At} (hl : ∀ a ∈ l, a ∈ F.A) : F.rr p (F.rr q l) = F.rr (comp p q) l := by
  have hl2 : ∀ a ∈ F.rr q l, a ∈ F.A := fun a ha => rowBy_sub.subset ha
  unfold Fd.rr
  apply rowBy_ext
  intro b _
  rw [List.mem_map, List.mem_map]
  constructor
  · rintro ⟨a, ha, rfl⟩
    obtain ⟨c, hc, rfl⟩ := (h.rr_mem hq hl).mp ha
    exact ⟨c, hc, ren_comp hq (h.atm (hl c hc)).2⟩
  · rintro ⟨c, hc, rfl⟩
    exact ⟨Mz.ren q c, (h.rr_mem hq hl).mpr ⟨c, hc, rfl⟩, (ren_comp hq (h.atm (hl c hc)).2).symm⟩
theorem FdOk.rr_len (h : FdOk F) {p : List Nat} (hp : Ren F.mn p) {l : List At} (hl : ∀ a ∈ l, a ∈ F.A) (nd : l.Nodup) : (F.rr p l).length = l.length := by
  unfold Fd.rr
  rw [rowBy_len ?_ h.nd ?_, List.length_map]
  · unfold List.Nodup
    rw [List.pairwise_map]
    exact List.Pairwise.imp_of_mem (fun {a b} ha hb hab e => hab (h.ren_inj hp (hl a ha) (hl b hb) e)) nd
  · intro b hb
    rw [List.mem_map] at hb
    obtain ⟨a, ha, rfl⟩ := hb
    exact h.ren hp (hl a ha)
/-! kinds -/
abbrev Fd.kd (F : Fd) (l : List At) : List (List Nat × List At) := kfill (fun p => F.spots (F.rr p l)) (fun p => F.rr p l) (rn F.mn F.mn)
def Fd.kinds (F : Fd) (l : List At) : List (List At) := (ksort nats (keys (F.kd l))).map fun k => (klook (F.kd l) k).getD []
/-- the row of a row of places -/
def Fd.ofSp (F : Fd) (k : List Nat) : List At := k.filterMap fun i => F.A[i]?
theorem ofSp_eq {l : List At} (hl : ∀ a ∈ l, a ∈ F.A) : F.ofSp (F.spots l) = l := by
  unfold Fd.ofSp Fd.spots
  induction l with
  | nil => rfl
  | cons a l ih =>
    rw [List.map_cons, List.filterMap_cons, idx_get (hl a (by simp))]
    rw [ih fun b hb => hl b (by simp [hb])]
theorem rr_sub {p : List Nat} {l : List At} : (F.rr p l).Sublist F.A := rowBy_sub
theorem kinds_eq {l : List At} : F.kinds l = (ksort nats (keys (F.kd l))).map F.ofSp := by
  unfold Fd.kinds
  apply List.map_congr_left
  intro k hk
  have hk := kfill_mem.mp (ksort_mem.mp hk)
  rw [kfill_get F.ofSp (fun p _ => (ofSp_eq fun a ha => rr_sub.subset ha).symm) hk]; rfl
theorem kinds_mem {l r : List At} : r ∈ F.kinds l ↔ ∃ p, Ren F.mn p ∧ F.rr p l = r := by
  rw [kinds_eq, List.mem_map]
  constructor
  · rintro ⟨k, hk, rfl⟩
    have hk := kfill_mem.mp (ksort_mem.mp hk)
    rw [List.mem_map] at hk
    obtain ⟨p, hp, rfl⟩ := hk
    exact ⟨p, hp, (ofSp_eq fun a ha => rr_sub.subset ha).symm⟩
  · rintro ⟨p, hp, rfl⟩
    exact ⟨F.spots (F.rr p l), ksort_mem.mpr (kfill_mem.mpr (List.mem_map_of_mem (f := fun p => F.spots (F.rr p l)) hp)), ofSp_eq fun a ha => rr_sub.subset ha⟩
theorem kinds_ne (l : List At) : F.kinds l ≠ [] := by
  have : F.rr (List.range F.mn) l ∈ F.kinds l := kinds_mem.mpr ⟨_, idRen _, rfl⟩
  intro e
  rw [e] at this
  cases this
theorem tot_nats {ks : List (List Nat)} : Tot nats ks := tot_of fun a _ b _ e => nats_toks e
theorem FdOk.rr_id (h : FdOk F) {l : List At} (hl : l.Sublist F.A) : F.rr (List.range F.mn) l = l := by
  unfold Fd.rr
  have : l.map (Mz.ren (List.range F.mn)) = l := by
    conv => rhs; rw [← List.map_id l]
    apply List.map_congr_left
    intro a ha
    exact ren_id (h.atm (hl.subset ha)).2
  rw [this]
  exact sub_filter h.nd hl
/-- the kinds of a renamed row are those of the row -/
theorem FdOk.kinds_rr (h : FdOk F) {l : List At} (hl : ∀ a ∈ l, a ∈ F.A) {q : List Nat} (hq : Ren F.mn q) : F.kinds (F.rr q l) = F.kinds l := by
  rw [kinds_eq, kinds_eq, ksort_same kfill_nodup kfill_nodup tot_nats]
  intro k
  rw [kfill_mem, kfill_mem, List.mem_map, List.mem_map]
  constructor
  · rintro ⟨p, hp, rfl⟩
    have hp : Ren F.mn p := hp
    exact ⟨comp p q, hp.comp hq, by rw [h.rr_comp hp hq hl]⟩
  · rintro ⟨p, hp, rfl⟩
    have hp : Ren F.mn p := hp
    refine ⟨comp p (inv F.mn q), hp.comp hq.inv, ?_⟩
    rw [h.rr_comp (hp.comp hq.inv) hq hl]
    congr 1
    unfold Fd.rr
    apply rowBy_ext
    intro b _
    rw [List.mem_map, List.mem_map]
    have key : ∀ a ∈ l, Mz.ren (comp (comp p (inv F.mn q)) q) a = Mz.ren p a := fun a ha => by
      obtain ⟨_, h2⟩ := h.atm (hl a ha)
      unfold Mz.ren
      refine Prod.ext rfl ?_
      apply List.map_congr_left
      intro o ho
      have ho := h2 o ho
      rw [ap_comp hq ho, ap_comp hq.inv (hq.lt ho), ap_inv (hq.lt ho), idx_ap hq ho]
    exact ⟨fun ⟨a, ha, e⟩ => ⟨a, ha, by rw [← key a ha]; exact e⟩, fun ⟨a, ha, e⟩ => ⟨a, ha, by rw [key a ha]; exact e⟩⟩
end
end Mz

set_option Elab.async false
set_option linter.all false
set_option maxRecDepth 100000
set_option maxHeartbeats 400000
set_option autoImplicit false
namespace Mi
open PySem L2 PD PySem.Spec
def recD (F : FDen → FDen) : Nat → FDen
  | 0 => fun _ => .bad
  | n + 1 => F (recD F n)
abbrev P_is_within : List Md := [.sh, .sh, .sh]
def den_is_within : DenS :=
    (dRet (dAndV (dIs .int (dVar 0)) (dAndV (dNotV (dIs .bool (dVar 0))) (dChain (gI0 fun i j => .bool (decide (i ≤ j))) (gI0 fun i j => .bool (decide (i ≤ j))) (dVar 1) (dVar 0) (dVar 2)))))
@[irreducible] def m_is_within : FDen := runBody 3 P_is_within den_is_within
abbrev P_is_notion_name : List Md := [.sh]
def den_is_notion_name : DenS :=
    (dSeq (dIfS (dOr (dNot (dB (dIs .str (dVar 0)))) (dOr (dNot (dB (dChain (gI0 fun i j => .bool (decide (i ≤ j))) (gI0 fun i j => .bool (decide (i ≤ j))) (dC (.int 1)) (d1 gLen (dVar 0)) (dC (.int 8))))) (dB (dInC [("not", 1), ("both", 2), ("either", 2), ("turned", 1), ("chain", 2), ("some", 1)] (dVar 0)))))
    (dRet (dC (.bool false)))
    dSkip)
    (dRet (d1 gAll (dLC (dSigns (dVar 0)) (tName 1) dYes (dOp gInS (dVar 1) (dC (.str "abcdefghijklmnopqrstuvwxyz"))) [1]))))
@[irreducible] def m_is_notion_name : FDen := runBody 2 P_is_notion_name den_is_notion_name
abbrev P_is_notion : List Md := [.sh]
def den_is_notion : DenS :=
    (dSeq (dIfS (dOr (dNot (dB (dIs .tuple (dVar 0)))) (dB (dOp gNe (d1 gLen (dVar 0)) (dC (.int 2)))))
    (dRet (dC (.bool false)))
    dSkip)
    (dSeq (dAsg (dVar 0) (tTupl (tsCons (tName 1) (tsCons (tName 2) tsNil))))
    (dRet (dAndV (dCall m_is_notion_name (dCons (dVar 1) dNil)) (dCall m_is_within (dCons (dVar 2) (dCons (dC (.int 1)) (dCons (dC (.int 2)) dNil))))))))
@[irreducible] def m_is_notion : FDen := runBody 3 P_is_notion den_is_notion
abbrev P_is_notions : List Md := [.sh]
def den_is_notions : DenS :=
    (dSeq (dIfS (dOr (dNot (dB (dIs .tuple (dVar 0)))) (dNot (dB (dChain (gI0 fun i j => .bool (decide (i ≤ j))) (gI0 fun i j => .bool (decide (i ≤ j))) (dC (.int 1)) (d1 gLen (dVar 0)) (dC (.int 3))))))
    (dRet (dC (.bool false)))
    dSkip)
    (dSeq (dIfS (dNot (dB (d1 gAll (dLC (dItems (dVar 0)) (tName 1) dYes (dCall m_is_notion (dCons (dVar 1) dNil)) [1]))))
    (dRet (dC (.bool false)))
    dSkip)
    (dRet (dOp gEq (dLenSC (dItems (dVar 0)) (tTupl (tsCons (tName 2) (tsCons (tName 3) tsNil))) dYes (dVar 2) [2, 3]) (d1 gLen (dVar 0))))))
@[irreducible] def m_is_notions : FDen := runBody 4 P_is_notions den_is_notions
abbrev P_made_places : List Md := [.sh, .sh]
def den_made_places : DenS :=
    (dSeq (dIfS (dB (dOp gIn (dVar 0) (dC (.tuple (List.map PyData.str ["turned", "chain", "some"])))))
    (dSeq (dIfS (dB (dOp (gI0 fun i j => .bool (decide (i < j))) (d1 gMin (dVar 1)) (dC (.int 2))))
    (dRet (dC .none))
    dSkip)
    (dRet (dIf (dB (dOp gEq (dVar 0) (dC (.str "some")))) (dC (.int 1)) (dC (.int 2)))))
    dSkip)
    (dRet (dIm (dIf (dB (dOp gEq (dOp gIx (dVar 1) (dC (.int 0))) (dOp gIx (dVar 1) (dNeg (dC (.int 1)))))) (dOp gIx (dVar 1) (dC (.int 0))) (dC .none)))))
@[irreducible] def m_made_places : FDen := runBody 2 P_made_places den_made_places
abbrev P_places_below : List Md := [.sh, .sh, .sh]
def den_places_below (self : FDen) : DenS :=
    (dSeq (dIfS (dB (dIs .str (dVar 1)))
    (dRet (dIm (dGet1 (dVar 0) (dVar 1))))
    dSkip)
    (dSeq (dIfS (dOr (dB (dOp gEq (dVar 2) (dC (.int 0)))) (dOr (dNot (dB (dIs .tuple (dVar 1)))) (dB (dOp gEq (dVar 1) (dTup dNil)))))
    (dRet (dC .none))
    dSkip)
    (dSeq (dAsg (dVar 1) (tStar (tsCons (tName 4) (tsCons (tName 5) tsNil))))
    (dSeq (dIfS (dOr (dNot (dB (dIs .str (dVar 4)))) (dB (dOp gNe (dGetC [("not", 1), ("both", 2), ("either", 2), ("turned", 1), ("chain", 2), ("some", 1)] (dVar 4)) (d1 gLen (dVar 5)))))
    (dRet (dC .none))
    dSkip)
    (dSeq (dSet 3 (dLC (dItems (dVar 5)) (tName 6) dYes (dCall self (dCons (dVar 0) (dCons (dVar 6) (dCons (dOp (gI0 fun i j => .int (i - j)) (dVar 2) (dC (.int 1))) dNil)))) [6]))
    (dRet (dIf (dB (dOp gIn (dC .none) (dVar 3))) (dC .none) (dCall m_made_places (dCons (dVar 4) (dCons (dVar 3) dNil))))))))))
@[irreducible] def m_places_below (n : Nat) : FDen := recD (fun self => runBody 7 P_places_below (den_places_below self)) n
theorem m_places_below_z : m_places_below 0 = fun _ => .bad := by unfold m_places_below; rfl
theorem m_places_below_s {n : Nat} : m_places_below (n + 1) = runBody 7 P_places_below (den_places_below (m_places_below n)) := by unfold m_places_below; rfl
abbrev P_places_in : List Md := [.sh, .sh]
def den_places_in : DenS :=
    (dRet (dCall (m_places_below 5) (dCons (d1 gDictT (dVar 0)) (dCons (dVar 1) (dCons (dC (.int 3)) dNil)))))
@[irreducible] def m_places_in : FDen := runBody 2 P_places_in den_places_in
abbrev P_text_of : List Md := [.sh]
def den_text_of (self : FDen) : DenS :=
    (dSeq (dIfS (dB (dIs .str (dVar 0)))
    (dRet (dIm (dVar 0)))
    dSkip)
    (dSeq (dAsg (dVar 0) (tStar (tsCons (tName 1) (tsCons (tName 2) tsNil))))
    (dRet (dJoin (dC (.str " ")) (dOp oAdd (dLst (dCons (dVar 1) dNil)) (dLC (dItems (dVar 2)) (tName 3) dYes (dCall self (dCons (dVar 3) dNil)) [3]))))))
@[irreducible] def m_text_of (n : Nat) : FDen := recD (fun self => runBody 4 P_text_of (den_text_of self)) n
theorem m_text_of_z : m_text_of 0 = fun _ => .bad := by unfold m_text_of; rfl
theorem m_text_of_s {n : Nat} : m_text_of (n + 1) = runBody 4 P_text_of (den_text_of (m_text_of n)) := by unfold m_text_of; rfl
abbrev P_own_terms : List Md := [.sh]
def den_own_terms : DenS :=
    (dRet (dIf (dB (dIs .str (dVar 0))) (dTup dNil) (dSl (dVar 0) (dSo (dC (.int 1))) dNo)))
@[irreducible] def m_own_terms : FDen := runBody 1 P_own_terms den_own_terms
abbrev P_all_parts : List Md := [.sh]
def den_all_parts (self : FDen) : DenS :=
    (dSeq (dSetO 1 (dLst (dCons (dVar 0) dNil)))
    (dSeq (dFor (dItems (dCall m_own_terms (dCons (dVar 0) dNil))) (tName 2) (dExt 1 (dCall self (dCons (dVar 2) dNil))))
    (dRet (dTake 1))))
@[irreducible] def m_all_parts (n : Nat) : FDen := recD (fun self => runBody 3 P_all_parts (den_all_parts self)) n
theorem m_all_parts_z : m_all_parts 0 = fun _ => .bad := by unfold m_all_parts; rfl
theorem m_all_parts_s {n : Nat} : m_all_parts (n + 1) = runBody 3 P_all_parts (den_all_parts (m_all_parts n)) := by unfold m_all_parts; rfl
abbrev P_by_texts : List Md := [.sh]
def den_by_texts : DenS :=
    (dSeq (dSet 1 (dDC putF (.dict []) (dItems (dVar 0)) (tName 2) dYes (dCall (m_text_of 6) (dCons (dVar 2) dNil)) (dVar 2) [2]))
    (dRet (d1 gTuple (dLC (dItems (d1 gSorted (dVar 1))) (tName 3) dYes (dOp gDGet (dVar 1) (dVar 3)) [3]))))
@[irreducible] def m_by_texts : FDen := runBody 4 P_by_texts den_by_texts
abbrev P_terms_by : List Md := [.sh, .sh]
def den_terms_by : DenS :=
    (dRet (dCall m_by_texts (dCons (dOp oAdd (dLC (dItems (dVar 0)) (tTupl (tsCons (tName 4) (tsCons (tName 5) tsNil))) dYes (dVar 4) [4, 5]) (dLC2 (dItems (dVar 1)) (tName 2) dYes (dItems (dCall (m_all_parts 6) (dCons (dVar 2) dNil))) (tName 3) dYes (dVar 3) [2, 3] [3])) dNil)))
@[irreducible] def m_terms_by : FDen := runBody 6 P_terms_by den_terms_by
abbrev P_unknown_rows : List Md := [.sh, .sh]
def den_unknown_rows : DenS :=
    (dSeq (dSet 2 (dLst (dCons (dTup dNil) dNil)))
    (dSeq (dFor (dRng1 (dVar 1)) (tName 3) (dSet 2 (dLC2 (dItems (dVar 2)) (tName 4) dYes (dRng1 (dVar 0)) (tName 5) dYes (dOp oAdd (dVar 4) (dTup (dCons (dVar 5) dNil))) [4, 5] [5])))
    (dRet (dVar 2))))
@[irreducible] def m_unknown_rows : FDen := runBody 6 P_unknown_rows den_unknown_rows
abbrev P_many_atoms : List Md := [.sh, .sh, .sh]
def den_many_atoms : DenS :=
    (dRet (d1 gSum (dLC (dItems (dVar 1)) (tName 3) dYes (d1 gLen (dCall m_unknown_rows (dCons (dVar 2) (dCons (dCall m_places_in (dCons (dVar 0) (dCons (dVar 3) dNil))) dNil)))) [3])))
@[irreducible] def m_many_atoms : FDen := runBody 4 P_many_atoms den_many_atoms
abbrev P_are_shown : List Md := [.sh, .sh]
def den_are_shown : DenS :=
    (dSeq (dIfS (dOr (dNot (dB (dIs .tuple (dVar 1)))) (dNot (dB (dChain (gI0 fun i j => .bool (decide (i ≤ j))) (gI0 fun i j => .bool (decide (i ≤ j))) (dC (.int 1)) (d1 gLen (dVar 1)) (dC (.int 4))))))
    (dRet (dC (.bool false)))
    dSkip)
    (dSeq (dIfS (dNot (dB (d1 gAll (dLC (dItems (dVar 1)) (tName 2) dYes (dOp gNotN (dCall m_places_in (dCons (dVar 0) (dCons (dVar 2) dNil))) (dC .none)) [2]))))
    (dRet (dC (.bool false)))
    dSkip)
    (dRet (dOp gEq (d1 gLen (dCall m_by_texts (dCons (dVar 1) dNil))) (d1 gLen (dVar 1))))))
@[irreducible] def m_are_shown : FDen := runBody 3 P_are_shown den_are_shown
abbrev P_is_field : List Md := [.sh]
def den_is_field : DenS :=
    (dSeq (dIfS (dOr (dNot (dB (dIs .tuple (dVar 0)))) (dB (dOp gNe (d1 gLen (dVar 0)) (dC (.int 3)))))
    (dRet (dC (.bool false)))
    dSkip)
    (dSeq (dAsg (dVar 0) (tTupl (tsCons (tName 1) (tsCons (tName 2) (tsCons (tName 3) tsNil)))))
    (dSeq (dIfS (dOr (dNot (dB (dCall m_is_notions (dCons (dVar 1) dNil)))) (dOr (dNot (dB (dCall m_are_shown (dCons (dVar 1) (dCons (dVar 2) dNil))))) (dNot (dB (dCall m_is_within (dCons (dVar 3) (dCons (dC (.int 1)) (dCons (dC (.int 3)) dNil))))))))
    (dRet (dC (.bool false)))
    dSkip)
    (dSeq (dIfS (dB (dOp (gI0 fun i j => .bool (decide (j < i))) (dCall m_many_atoms (dCons (dVar 1) (dCons (dVar 2) (dCons (dVar 3) dNil)))) (dC (.int 10))))
    (dRet (dC (.bool false)))
    dSkip)
    (dRet (dOp (gI0 fun i j => .bool (decide (i ≤ j))) (dCall m_many_atoms (dCons (dVar 1) (dCons (dCall m_terms_by (dCons (dVar 1) (dCons (dVar 2) dNil))) (dCons (dVar 3) dNil)))) (dC (.int 40))))))))
@[irreducible] def m_is_field : FDen := runBody 4 P_is_field den_is_field
abbrev P_need_field : List Md := [.sh]
def den_need_field : DenS :=
    (dIfS (dNot (dB (dCall m_is_field (dCons (dVar 0) dNil))))
    dNever
    dSkip)
@[irreducible] def m_need_field : FDen := runBody 1 P_need_field den_need_field
abbrev P_terms_in : List Md := [.sh]
def den_terms_in : DenS :=
    (dSeq (dAsg (dVar 0) (tTupl (tsCons (tName 1) (tsCons (tName 2) (tsCons (tName 3) tsNil)))))
    (dRet (dCall m_terms_by (dCons (dVar 1) (dCons (dVar 2) dNil)))))
@[irreducible] def m_terms_in : FDen := runBody 4 P_terms_in den_terms_in
abbrev P_atoms_in : List Md := [.sh, .sh]
def den_atoms_in : DenS :=
    (dSeq (dAsg (dVar 0) (tTupl (tsCons (tName 3) (tsCons (tName 4) (tsCons (tName 5) tsNil)))))
    (dSeq (dSet 2 (dLC (dItems (dCall m_terms_in (dCons (dVar 0) dNil))) (tName 6) (dOr (dNot (dB (dVar 1))) (dB (dOp gIn (dVar 6) (dVar 4)))) (dVar 6) [6]))
    (dRet (d1 gTuple (dLC2 (dItems (dVar 2)) (tName 6) dYes (dItems (dCall m_unknown_rows (dCons (dVar 5) (dCons (dCall m_places_in (dCons (dVar 3) (dCons (dVar 6) dNil))) dNil)))) (tName 7) dYes (dTup (dCons (dVar 6) (dCons (dVar 7) dNil))) [6, 7] [7])))))
@[irreducible] def m_atoms_in : FDen := runBody 8 P_atoms_in den_atoms_in
abbrev P_numbers_in : List Md := [.sh]
def den_numbers_in : DenS :=
    (dRet (dDC putN (.dict [(.none, .none)]) (dEnum (dCall m_atoms_in (dCons (dVar 0) (dCons (dC (.bool false)) dNil)))) (tTupl (tsCons (tName 1) (tsCons (tName 2) tsNil))) dYes (dVar 2) (dVar 1) [1, 2]))
@[irreducible] def m_numbers_in : FDen := runBody 3 P_numbers_in den_numbers_in
abbrev P_is_atom_by : List Md := [.sh, .sh, .sh]
def den_is_atom_by : DenS :=
    (dSeq (dIfS (dOr (dNot (dB (dIs .tuple (dVar 2)))) (dB (dOp gNe (d1 gLen (dVar 2)) (dC (.int 2)))))
    (dRet (dC (.bool false)))
    dSkip)
    (dSeq (dAsg (dVar 2) (tTupl (tsCons (tName 3) (tsCons (tName 4) tsNil))))
    (dSeq (dAsg (dVar 0) (tTupl (tsCons (tName 5) (tsCons (tName 6) (tsCons (tName 7) tsNil)))))
    (dSeq (dIfS (dOr (dNot (dB (dIs2 .str .tuple (dVar 3)))) (dOr (dB (dOp gNotIn (dVar 3) (dVar 1))) (dNot (dB (dIs .tuple (dVar 4))))))
    (dRet (dC (.bool false)))
    dSkip)
    (dRet (dAndV (dOp gEq (d1 gLen (dVar 4)) (dCall m_places_in (dCons (dVar 5) (dCons (dVar 3) dNil)))) (d1 gAll (dLC (dItems (dVar 4)) (tName 8) dYes (dCall m_is_within (dCons (dVar 8) (dCons (dC (.int 0)) (dCons (dOp (gI0 fun i j => .int (i - j)) (dVar 7) (dC (.int 1))) dNil)))) [8]))))))))
@[irreducible] def m_is_atom_by : FDen := runBody 9 P_is_atom_by den_is_atom_by
abbrev P_numbers_of : List Md := [.sh, .sh]
def den_numbers_of : DenS :=
    (dSeq (dSet 2 (dCall m_numbers_in (dCons (dVar 0) dNil)))
    (dRet (d1 gTuple (dLC (dItems (dVar 1)) (tName 3) dYes (dOp gNGet (dVar 2) (dVar 3)) [3]))))
@[irreducible] def m_numbers_of : FDen := runBody 4 P_numbers_of den_numbers_of
abbrev P_is_row_in : List Md := [.sh, .sh, .sh]
def den_is_row_in : DenS :=
    (dSeq (dIfS (dNot (dB (dIs .tuple (dVar 1))))
    (dRet (dC (.bool false)))
    dSkip)
    (dSeq (dSet 3 (dIf (dB (dVar 2)) (dOp gIx (dVar 0) (dC (.int 1))) (dCall m_terms_in (dCons (dVar 0) dNil))))
    (dSeq (dIfS (dNot (dB (d1 gAll (dLC (dItems (dVar 1)) (tName 5) dYes (dCall m_is_atom_by (dCons (dVar 0) (dCons (dVar 3) (dCons (dVar 5) dNil)))) [5]))))
    (dRet (dC (.bool false)))
    dSkip)
    (dSeq (dSet 4 (dCall m_numbers_of (dCons (dVar 0) (dCons (dVar 1) dNil))))
    (dRet (d1 gAll (dLC (dZip (dVar 4) (dSl (dVar 4) (dSo (dC (.int 1))) dNo)) (tTupl (tsCons (tName 6) (tsCons (tName 7) tsNil))) dYes (dOp (gI0 fun i j => .bool (decide (i < j))) (dVar 6) (dVar 7)) [6, 7])))))))
@[irreducible] def m_is_row_in : FDen := runBody 8 P_is_row_in den_is_row_in
abbrev P_need_row : List Md := [.sh, .sh]
def den_need_row : DenS :=
    (dIfS (dNot (dB (dCall m_is_row_in (dCons (dVar 0) (dCons (dVar 1) (dCons (dC (.bool false)) dNil))))))
    dNever
    dSkip)
@[irreducible] def m_need_row : FDen := runBody 2 P_need_row den_need_row
abbrev P_row_by : List Md := [.sh, .sh]
def den_row_by : DenS :=
    (dSeq (dSet 2 (dCall m_numbers_in (dCons (dVar 0) dNil)))
    (dSeq (dSet 3 (dDC putF (.dict []) (dItems (dVar 1)) (tName 4) dYes (dOp gNGet (dVar 2) (dVar 4)) (dVar 4) [4]))
    (dRet (d1 gTuple (dLC (dItems (d1 gSorted (dVar 3))) (tName 5) dYes (dOp gDGet (dVar 3) (dVar 5)) [5])))))
@[irreducible] def m_row_by : FDen := runBody 6 P_row_by den_row_by
abbrev P_all_renamings : List Md := [.sh]
def den_all_renamings : DenS :=
    (dSeq (dSet 1 (dLst (dCons (dTup dNil) dNil)))
    (dSeq (dFor (dRng1 (dVar 0)) (tName 2) (dSet 1 (dLC2 (dItems (dVar 1)) (tName 3) dYes (dRng1 (dVar 0)) (tName 4) (dB (dOp gNotIn (dVar 4) (dVar 3))) (dOp oAdd (dVar 3) (dTup (dCons (dVar 4) dNil))) [3, 4] [4])))
    (dRet (d1 gTuple (dVar 1)))))
@[irreducible] def m_all_renamings : FDen := runBody 5 P_all_renamings den_all_renamings
abbrev P_atom_by : List Md := [.sh, .sh]
def den_atom_by : DenS :=
    (dSeq (dAsg (dVar 0) (tTupl (tsCons (tName 2) (tsCons (tName 3) tsNil))))
    (dRet (dTup (dCons (dVar 2) (dCons (d1 gTuple (dLC (dItems (dVar 3)) (tName 4) dYes (dOp gIx (dVar 1) (dVar 4)) [4])) dNil)))))
@[irreducible] def m_atom_by : FDen := runBody 5 P_atom_by den_atom_by
abbrev P_renamed_by : List Md := [.sh, .sh, .sh]
def den_renamed_by : DenS :=
    (dRet (dCall m_row_by (dCons (dVar 0) (dCons (dLC (dItems (dVar 1)) (tName 3) dYes (dCall m_atom_by (dCons (dVar 3) (dCons (dVar 2) dNil))) [3]) dNil))))
@[irreducible] def m_renamed_by : FDen := runBody 4 P_renamed_by den_renamed_by
abbrev P_kinds_by : List Md := [.sh, .sh]
def den_kinds_by : DenS :=
    (dSeq (dSet 2 (dCall m_numbers_in (dCons (dVar 0) dNil)))
    (dSeq (dSetO 3 (dC (.dict [(.none, .none)])))
    (dSeq (dFor (dItems (dCall m_all_renamings (dCons (dOp gIx (dVar 0) (dC (.int 2))) dNil))) (tName 4) (dSeq (dSet 5 (dCall m_renamed_by (dCons (dVar 0) (dCons (dVar 1) (dCons (dVar 4) dNil)))))
    (dStN 3 (dVar 5) (d1 gTuple (dLC (dItems (dVar 5)) (tName 7) dYes (dOp gNGet (dVar 2) (dVar 7)) [7])))))
    (dRet (d1 gTuple (dLC (dItems (d1 gSorted (dVar 3))) (tName 6) dYes (dOpO gNGet 3 (dVar 6)) [6]))))))
@[irreducible] def m_kinds_by : FDen := runBody 8 P_kinds_by den_kinds_by
abbrev P_kinds_of : List Md := [.sh, .sh]
def den_kinds_of : DenS :=
    (dSeq (dDrop (dCall m_need_field (dCons (dVar 0) dNil)))
    (dSeq (dDrop (dCall m_need_row (dCons (dVar 0) (dCons (dVar 1) dNil))))
    (dRet (dCall m_kinds_by (dCons (dVar 0) (dCons (dVar 1) dNil))))))
@[irreducible] def m_kinds_of : FDen := runBody 2 P_kinds_of den_kinds_of
abbrev P_least_by : List Md := [.sh, .sh]
def den_least_by : DenS :=
    (dSeq (dAsg (dCall m_kinds_by (dCons (dVar 0) (dCons (dVar 1) dNil))) (tStar (tsCons (tName 2) (tsCons (tName 3) tsNil))))
    (dRet (dIm (dVar 2))))
@[irreducible] def m_least_by : FDen := runBody 4 P_least_by den_least_by
abbrev P_least_row : List Md := [.sh, .sh]
def den_least_row : DenS :=
    (dSeq (dDrop (dCall m_need_field (dCons (dVar 0) dNil)))
    (dSeq (dDrop (dCall m_need_row (dCons (dVar 0) (dCons (dVar 1) dNil))))
    (dRet (dCall m_least_by (dCons (dVar 0) (dCons (dVar 1) dNil))))))
@[irreducible] def m_least_row : FDen := runBody 2 P_least_row den_least_row
abbrev P__law_pool : List Md := [.sh, .sh]
def den__law_pool : DenS :=
    (dSeq (dSet 2 (dC (.int 0)))
    (dSeq (dIfS (dB (dOp (gI0 fun i j => .bool (decide (i < j))) (dVar 1) (d1 gLen (dVar 0))))
    (dSet 2 (dOp gIx (dVar 0) (dVar 1)))
    dSkip)
    (dRet (dLst (dCons (dOp (gI0 fun i j => .int (if j > i then j else i)) (dC (.int 0)) (dOp (gI0 fun i j => .int (i - j)) (dVar 2) (dOp (gI CPow fun i j => .int (i ^ j.toNat)) (dC (.int 10)) (dC (.int 18))))) (dCons (dOp (gI (fun _ j => 0 < j) fun i j => .int (i % j)) (dVar 2) (dC (.int 1000000007))) (dCons (dOp oAdd (dOp (gI CMul fun i j => .int (i * j)) (dC (.int 7919)) (dVar 1)) (dC (.int 1))) dNil)))))))
@[irreducible] def m__law_pool : FDen := runBody 3 P__law_pool den__law_pool
abbrev P__law_take : List Md := [.pm, .sh]
def den__law_take : DenS :=
    (dSeq (dIfS (dB (dOp (gI0 fun i j => .bool (decide (j < i))) (dOpO gIx 0 (dC (.int 0))) (dC (.int 0))))
    (dSeq (dSet 4 (dOp (gI (fun _ j => 0 < j) fun i j => .int (i % j)) (dOpO gIx 0 (dC (.int 0))) (dVar 1)))
    (dSeq (dStL 0 (dOp (gI CDiv fun i j => .int (i / j)) (dOpO gIx 0 (dC (.int 0))) (dVar 1)) (dC (.int 0)))
    (dRet (dIm (dVar 4)))))
    dSkip)
    (dSeq (dStL 0 (dOp oAdd (dOpO gIx 0 (dC (.int 2))) (dC (.int 1))) (dC (.int 2)))
    (dSeq (dSet 2 (dOp (gI (fun _ j => 0 < j) fun i j => .int (i % j)) (dOp oAdd (dOp oAdd (dOp (gI CMul fun i j => .int (i * j)) (dOpO gIx 0 (dC (.int 1))) (dC (.int 48271))) (dOp (gI CMul fun i j => .int (i * j)) (dC (.int 104729)) (dOpO gIx 0 (dC (.int 2))))) (dC (.int 101))) (dC (.int 2147483629))))
    (dSeq (dSet 2 (dOp (gI (fun _ j => 0 < j) fun i j => .int (i % j)) (dOp (gI CPow fun i j => .int (i ^ j.toNat)) (dVar 2) (dC (.int 5))) (dC (.int 2147483587))))
    (dSeq (dSet 3 (dOp (gI (fun _ j => 0 < j) fun i j => .int (i % j)) (dOp (gI CPow fun i j => .int (i ^ j.toNat)) (dOp oAdd (dOp oAdd (dVar 2) (dOp (gI CMul fun i j => .int (i * j)) (dOp (gI CMul fun i j => .int (i * j)) (dC (.int 69621)) (dOpO gIx 0 (dC (.int 2)))) (dOpO gIx 0 (dC (.int 2))))) (dOp (gI (fun _ j => 0 < j) fun i j => .int (i % j)) (dOpO gIx 0 (dC (.int 1))) (dC (.int 65537)))) (dC (.int 3))) (dC (.int 2147483563))))
    (dRet (dOp (gI (fun _ j => 0 < j) fun i j => .int (i % j)) (dOp (gI CDiv fun i j => .int (i / j)) (dOp (gI (fun _ j => 0 < j) fun i j => .int (i % j)) (dOp (gI CMul fun i j => .int (i * j)) (dVar 3) (dC (.int 40692))) (dC (.int 2147483549))) (dC (.int 64))) (dVar 1))))))))
@[irreducible] def m__law_take : FDen := runBody 5 P__law_take den__law_take
abbrev P__law_same : List Md := [.sh, .sh]
def den__law_same (self : FDen) : DenS :=
    (dSeq (dIfS (dB (dIs .tuple (dVar 1)))
    (dSeq (dIfS (dOr (dNot (dB (dIs .tuple (dVar 0)))) (dB (dOp gNe (d1 gLen (dVar 0)) (d1 gLen (dVar 1)))))
    (dRet (dC (.bool false)))
    dSkip)
    (dRet (d1 gAll (dLC (dZip (dVar 0) (dVar 1)) (tTupl (tsCons (tName 2) (tsCons (tName 3) tsNil))) dYes (dCall self (dCons (dVar 2) (dCons (dVar 3) dNil))) [2, 3]))))
    dSkip)
    (dSeq (dIfS (dB (dOp gIsN (dVar 1) (dC .none)))
    (dRet (dOp gIsN (dVar 0) (dC .none)))
    dSkip)
    (dSeq (dIfS (dB (dIs2 .str .bool (dVar 1)))
    (dRet (dAndV (dIs2 .str .bool (dVar 0)) (dAndV (dOp gEq (dIs .bool (dVar 0)) (dIs .bool (dVar 1))) (dOp gEq (dVar 0) (dVar 1)))))
    dSkip)
    (dRet (dAndV (dIs .int (dVar 0)) (dAndV (dNotV (dIs .bool (dVar 0))) (dOp gEq (dVar 0) (dVar 1))))))))
@[irreducible] def m__law_same (n : Nat) : FDen := recD (fun self => runBody 4 P__law_same (den__law_same self)) n
theorem m__law_same_z : m__law_same 0 = fun _ => .bad := by unfold m__law_same; rfl
theorem m__law_same_s {n : Nat} : m__law_same (n + 1) = runBody 4 P__law_same (den__law_same (m__law_same n)) := by unfold m__law_same; rfl
abbrev P__law_names : List Md := [.pm, .sh]
def den__law_names : DenS :=
    (dSeq (dSet 2 (dOp gIx (dLst (dCons (dC (.str "abcdefghijklmnopqrstuvwxyz")) (dCons (dC (.str "ab")) dNil))) (dCallP m__law_take 0 (dCons (dC (.int 2)) dNil))))
    (dSeq (dSetO 3 (dLst (dCons (dC (.str "not")) (dCons (dC (.str "both")) (dCons (dC (.str "either")) (dCons (dC (.str "turned")) (dCons (dC (.str "chain")) (dCons (dC (.str "some")) dNil))))))))
    (dSeq (dFor (dRng1 (dVar 1)) (tName 4) (dSeq (dSet 5 (dJoin (dC (.str "")) (dLC (dRng1 (dOp oAdd (dC (.int 1)) (dCallP m__law_take 0 (dCons (dC (.int 8)) dNil)))) (tName 8) dYes (dOp gIx (dVar 2) (dCallP m__law_take 0 (dCons (d1 gLen (dVar 2)) dNil))) [8])))
    (dSeq (dIfS (dAnd (dB (dOp (gI0 fun i j => .bool (decide (j < i))) (dVar 4) (dC (.int 0)))) (dB (dOp gEq (dCallP m__law_take 0 (dCons (dC (.int 3)) dNil)) (dC (.int 0)))))
    (dSet 5 (dOpO gIx 3 (dNeg (dC (.int 1)))))
    dSkip)
    (dSeq (dSet 6 (dCallP m__law_take 0 (dCons (d1 gLen (dVar 5)) dNil)))
    (dSeq (dSet 7 (dOp oAdd (dLst (dCons (dVar 5) dNil)) (dLC (dSigns (dC (.str "abcdefghijklmnopqrstuvwxyz"))) (tName 9) dYes (dOp oAdd (dOp oAdd (dSl (dVar 5) dNo (dSo (dVar 6))) (dVar 9)) (dSl (dVar 5) (dSo (dOp oAdd (dVar 6) (dC (.int 1)))) dNo)) [9])))
    (dApp 3 (dOp gIx (dLC (dItems (dVar 7)) (tName 10) (dB (dOp gNotIn (dVar 10) (dVar 3))) (dVar 10) [10]) (dC (.int 0)))))))))
    (dRet (dSlO 3 (dSo (dC (.int 6))) dNo)))))
@[irreducible] def m__law_names : FDen := runBody 11 P__law_names den__law_names
abbrev P__law_notions : List Md := [.pm]
def den__law_notions : DenS :=
    (dSeq (dSet 1 (dCallP m__law_names 0 (dCons (dOp oAdd (dC (.int 1)) (dCallP m__law_take 0 (dCons (dC (.int 3)) dNil))) dNil)))
    (dRet (d1 gTuple (dLC (dItems (dVar 1)) (tName 2) dYes (dTup (dCons (dVar 2) (dCons (dOp oAdd (dC (.int 1)) (d1 gInt (dOp (gI0 fun i j => .bool (decide (j < i))) (dCallP m__law_take 0 (dCons (dC (.int 3)) dNil)) (dC (.int 0))))) dNil))) [2]))))
@[irreducible] def m__law_notions : FDen := runBody 3 P__law_notions den__law_notions
abbrev P__law_term : List Md := [.pm, .sh, .sh]
def den__law_term : DenS :=
    (dSeq (dAsg (dOp gIx (dVar 1) (dCallP m__law_take 0 (dCons (d1 gLen (dVar 1)) dNil))) (tTupl (tsCons (tName 4) (tsCons (tName 5) tsNil))))
    (dSeq (dFor (dRng1 (dCallP m__law_take 0 (dCons (dOp oAdd (dVar 2) (dC (.int 1))) dNil))) (tName 3) (dSeq (dSet 6 (dOp oAdd (dLC (dItems (dVar 1)) (tTupl (tsCons (tName 11) (tsCons (tName 12) tsNil))) (dB (dOp gEq (dVar 12) (dVar 5))) (dVar 11) [11, 12]) (dLst (dCons (dVar 4) dNil))))
    (dSeq (dIfS (dNot (dB (dIs .str (dVar 4))))
    (dSet 6 (dOp oAdd (dVar 6) (dLC (dItems (dSl (dVar 6) dNo (dSo (dNeg (dC (.int 1)))))) (tName 7) dYes (dTup (dCons (dC (.str "not")) (dCons (dVar 7) dNil))) [7])))
    dSkip)
    (dSeq (dSet 7 (dOp gIx (dVar 6) (dCallP m__law_take 0 (dCons (d1 gLen (dVar 6)) dNil))))
    (dSeq (dSet 8 (dCallP m__law_take 0 (dCons (dOp gIx (dLst (dCons (dC (.int 3)) (dCons (dC (.int 6)) dNil))) (dOp (gI0 fun i j => .int (i - j)) (dVar 5) (dC (.int 1)))) dNil)))
    (dSeq (dSet 9 (dOp gIx (dLst (dCons (dTup (dCons (dVar 4) (dCons (dVar 7) dNil))) (dCons (dTup (dCons (dVar 7) (dCons (dVar 4) dNil))) dNil))) (dCallP m__law_take 0 (dCons (dC (.int 2)) dNil))))
    (dSeq (dSet 10 (dLst (dCons (dTup (dCons (dC (.str "not")) (dCons (dVar 4) dNil))) (dCons (dOp oAdd (dTup (dCons (dC (.str "both")) dNil)) (dVar 9)) (dCons (dOp oAdd (dTup (dCons (dC (.str "either")) dNil)) (dVar 9)) (dCons (dOp oAdd (dTup (dCons (dC (.str "chain")) dNil)) (dVar 9)) dNil))))))
    (dSeq (dSet 4 (dOp gIx (dOp oAdd (dVar 10) (dLst (dCons (dTup (dCons (dC (.str "turned")) (dCons (dVar 4) dNil))) (dCons (dTup (dCons (dC (.str "some")) (dCons (dVar 4) dNil))) dNil)))) (dVar 8)))
    (dSet 5 (dOp (gI0 fun i j => .int (i - j)) (dVar 5) (d1 gInt (dOp gEq (dVar 8) (dC (.int 5))))))))))))))
    (dRet (dTup (dCons (dVar 4) (dCons (dVar 5) dNil))))))
@[irreducible] def m__law_term : FDen := runBody 13 P__law_term den__law_term
abbrev P__law_parts : List Md := [.sh]
def den__law_parts (self : FDen) : DenS :=
    (dSeq (dIfS (dB (dIs .str (dVar 0)))
    (dRet (dLst (dCons (dVar 0) dNil)))
    dSkip)
    (dSeq (dSetO 1 (dLst (dCons (dVar 0) dNil)))
    (dSeq (dFor (dItems (dSl (dVar 0) (dSo (dC (.int 1))) dNo)) (tName 2) (dExt 1 (dCall self (dCons (dVar 2) dNil))))
    (dRet (dTake 1)))))
@[irreducible] def m__law_parts (n : Nat) : FDen := recD (fun self => runBody 3 P__law_parts (den__law_parts self)) n
theorem m__law_parts_z : m__law_parts 0 = fun _ => .bad := by unfold m__law_parts; rfl
theorem m__law_parts_s {n : Nat} : m__law_parts (n + 1) = runBody 3 P__law_parts (den__law_parts (m__law_parts n)) := by unfold m__law_parts; rfl
abbrev P__law_text : List Md := [.sh]
def den__law_text (self : FDen) : DenS :=
    (dSeq (dIfS (dB (dIs .str (dVar 0)))
    (dRet (dIm (dVar 0)))
    dSkip)
    (dRet (dJoin (dC (.str " ")) (dOp oAdd (dLst (dCons (dOp gIx (dVar 0) (dC (.int 0))) dNil)) (dLC (dItems (dSl (dVar 0) (dSo (dC (.int 1))) dNo)) (tName 1) dYes (dCall self (dCons (dVar 1) dNil)) [1])))))
@[irreducible] def m__law_text (n : Nat) : FDen := recD (fun self => runBody 2 P__law_text (den__law_text self)) n
theorem m__law_text_z : m__law_text 0 = fun _ => .bad := by unfold m__law_text; rfl
theorem m__law_text_s {n : Nat} : m__law_text (n + 1) = runBody 2 P__law_text (den__law_text (m__law_text n)) := by unfold m__law_text; rfl
abbrev P__law_width : List Md := [.sh, .sh]
def den__law_width (self : FDen) : DenS :=
    (dSeq (dIfS (dB (dIs .str (dVar 1)))
    (dRet (dIm (dOp gDGet (d1 gDictT (dVar 0)) (dVar 1))))
    dSkip)
    (dSeq (dIfS (dB (dOp gIn (dOp gIx (dVar 1) (dC (.int 0))) (dTup (dCons (dC (.str "turned")) (dCons (dC (.str "chain")) dNil)))))
    (dRet (dC (.int 2)))
    dSkip)
    (dRet (dIf (dB (dOp gEq (dOp gIx (dVar 1) (dC (.int 0))) (dC (.str "some")))) (dC (.int 1)) (dCall self (dCons (dVar 0) (dCons (dOp gIx (dVar 1) (dC (.int 1))) dNil)))))))
@[irreducible] def m__law_width (n : Nat) : FDen := recD (fun self => runBody 2 P__law_width (den__law_width self)) n
theorem m__law_width_z : m__law_width 0 = fun _ => .bad := by unfold m__law_width; rfl
theorem m__law_width_s {n : Nat} : m__law_width (n + 1) = runBody 2 P__law_width (den__law_width (m__law_width n)) := by unfold m__law_width; rfl
abbrev P__law_terms : List Md := [.sh, .sh]
def den__law_terms : DenS :=
    (dSeq (dSetO 2 (dC (.dict [])))
    (dSeq (dFor (dItems (dOp oAdd (dLC (dItems (dVar 0)) (tTupl (tsCons (tName 6) (tsCons (tName 7) tsNil))) dYes (dVar 6) [6, 7]) (d1 gList (dVar 1)))) (tName 3) (dFor (dItems (dCall (m__law_parts 6) (dCons (dVar 3) dNil))) (tName 4) (dStK 2 (dVar 4) (dCall (m__law_text 6) (dCons (dVar 4) dNil)))))
    (dRet (dLC (dItems (d1 gSorted (dVar 2))) (tName 5) dYes (dOpO gDGet 2 (dVar 5)) [5]))))
@[irreducible] def m__law_terms : FDen := runBody 8 P__law_terms den__law_terms
abbrev P__law_rows : List Md := [.sh, .sh]
def den__law_rows : DenS :=
    (dSeq (dIfS (dB (dOp gEq (dVar 1) (dC (.int 1))))
    (dRet (dLC (dRng1 (dVar 0)) (tName 3) dYes (dTup (dCons (dVar 3) dNil)) [3]))
    dSkip)
    (dSeq (dSetO 2 (dLst dNil))
    (dSeq (dFor (dRng1 (dVar 0)) (tName 3) (dExt 2 (dLC (dRng1 (dVar 0)) (tName 4) dYes (dTup (dCons (dVar 3) (dCons (dVar 4) dNil))) [4])))
    (dRet (dTake 2)))))
@[irreducible] def m__law_rows : FDen := runBody 5 P__law_rows den__law_rows
abbrev P__law_atoms : List Md := [.sh, .sh]
def den__law_atoms : DenS :=
    (dSeq (dSetO 2 (dLst dNil))
    (dSeq (dFor (dItems (dCall m__law_terms (dCons (dOp gIx (dVar 0) (dC (.int 0))) (dCons (dOp gIx (dVar 0) (dC (.int 1))) dNil)))) (tName 3) (dIfS (dOr (dB (dOp gEq (dVar 1) (dC (.int 0)))) (dB (dOp gIn (dVar 3) (dOp gIx (dVar 0) (dC (.int 1))))))
    (dExt 2 (dLC (dItems (dCall m__law_rows (dCons (dOp gIx (dVar 0) (dC (.int 2))) (dCons (dCall (m__law_width 6) (dCons (dOp gIx (dVar 0) (dC (.int 0))) (dCons (dVar 3) dNil))) dNil)))) (tName 4) dYes (dTup (dCons (dVar 3) (dCons (dVar 4) dNil))) [4]))
    dSkip))
    (dRet (dTake 2))))
@[irreducible] def m__law_atoms : FDen := runBody 5 P__law_atoms den__law_atoms
abbrev P__law_field : List Md := [.pm, .sh]
def den__law_field : DenS :=
    (dSeq (dSet 2 (dCallP m__law_notions 0 dNil))
    (dSeq (dAsg (dCallP m__law_term 0 (dCons (dVar 2) (dCons (dC (.int 3)) dNil))) (tTupl (tsCons (tName 6) (tsCons (tName 7) tsNil))))
    (dSeq (dSet 3 (dOp oAdd (dC (.int 1)) (dCallP m__law_take 0 (dCons (dC (.int 3)) dNil))))
    (dSeq (whileLoop (dOr (dB (dOp (gI0 fun i j => .bool (decide (j < i))) (d1 gLen (dCall m__law_rows (dCons (dVar 3) (dCons (dVar 7) dNil)))) (dVar 1))) (dB (dOp (gI0 fun i j => .bool (decide (j < i))) (d1 gLen (dCall m__law_atoms (dCons (dTup (dCons (dVar 2) (dCons (dTup (dCons (dVar 6) dNil)) (dCons (dVar 3) dNil)))) (dCons (dC (.int 0)) dNil)))) (dC (.int 40))))) (dSet 3 (dOp (gI0 fun i j => .int (i - j)) (dVar 3) (dC (.int 1)))) 5)
    (dSeq (dSetO 4 (dLst (dCons (dVar 6) dNil)))
    (dSeq (dFor (dRng1 (dCallP m__law_take 0 (dCons (dC (.int 4)) dNil))) (tName 5) (dSeq (dAsg (dCallP m__law_term 0 (dCons (dVar 2) (dCons (dOp oAdd (dC (.int 1)) (dCallP m__law_take 0 (dCons (dC (.int 3)) dNil))) dNil))) (tTupl (tsCons (tName 9) (tsCons (tName 7) tsNil))))
    (dSeq (dSet 8 (dTup (dCons (dVar 2) (dCons (d1 gTuple (dOpO oAdd 4 (dLst (dCons (dVar 9) dNil)))) (dCons (dVar 3) dNil)))))
    (dIfS (dAnd (dB (dOp gNotIn (dVar 9) (dVar 4))) (dAnd (dB (dOp (gI0 fun i j => .bool (decide (i ≤ j))) (d1 gLen (dCall m__law_atoms (dCons (dVar 8) (dCons (dC (.int 1)) dNil)))) (dVar 1))) (dB (dOp (gI0 fun i j => .bool (decide (i ≤ j))) (d1 gLen (dCall m__law_atoms (dCons (dVar 8) (dCons (dC (.int 0)) dNil)))) (dC (.int 40))))))
    (dApp 4 (dVar 9))
    dSkip))))
    (dRet (dTup (dCons (dVar 2) (dCons (d1 gTuple (dVar 4)) (dCons (dVar 3) dNil)))))))))))
@[irreducible] def m__law_field : FDen := runBody 10 P__law_field den__law_field
abbrev P__law_turnings : List Md := [.sh]
def den__law_turnings : DenS :=
    (dSeq (dIfS (dB (dOp (gI0 fun i j => .bool (decide (i < j))) (dVar 0) (dC (.int 3))))
    (dRet (dOp gIx (dLst (dCons (dLst (dCons (dTup (dCons (dC (.int 0)) dNil)) dNil)) (dCons (dLst (dCons (dTup (dCons (dC (.int 0)) (dCons (dC (.int 1)) dNil))) (dCons (dTup (dCons (dC (.int 1)) (dCons (dC (.int 0)) dNil))) dNil))) dNil))) (dOp (gI0 fun i j => .int (i - j)) (dVar 0) (dC (.int 1)))))
    dSkip)
    (dRet (dLst (dCons (dTup (dCons (dC (.int 0)) (dCons (dC (.int 1)) (dCons (dC (.int 2)) dNil)))) (dCons (dTup (dCons (dC (.int 0)) (dCons (dC (.int 2)) (dCons (dC (.int 1)) dNil)))) (dCons (dTup (dCons (dC (.int 1)) (dCons (dC (.int 0)) (dCons (dC (.int 2)) dNil)))) (dCons (dTup (dCons (dC (.int 1)) (dCons (dC (.int 2)) (dCons (dC (.int 0)) dNil)))) (dCons (dTup (dCons (dC (.int 2)) (dCons (dC (.int 0)) (dCons (dC (.int 1)) dNil)))) (dCons (dTup (dCons (dC (.int 2)) (dCons (dC (.int 1)) (dCons (dC (.int 0)) dNil)))) dNil)))))))))
@[irreducible] def m__law_turnings : FDen := runBody 1 P__law_turnings den__law_turnings
abbrev P__law_rising : List Md := [.sh]
def den__law_rising : DenS :=
    (dSeq (dSetO 1 (dC (.dict [(.none, .none)])))
    (dSeq (dFor (dItems (dVar 0)) (tTupl (tsCons (tName 2) (tsCons (tName 3) tsNil))) (dStN 1 (dTup (dCons (dVar 2) (dCons (dVar 3) dNil))) (dTup (dCons (dCall (m__law_text 6) (dCons (dVar 2) dNil)) (dCons (dVar 3) dNil)))))
    (dRet (d1 gTuple (dLC (dItems (d1 gSorted (dVar 1))) (tName 4) dYes (dOpO gNGet 1 (dVar 4)) [4])))))
@[irreducible] def m__law_rising : FDen := runBody 5 P__law_rising den__law_rising
abbrev P__law_turned : List Md := [.sh, .sh]
def den__law_turned : DenS :=
    (dRet (dCall m__law_rising (dCons (dLC (dItems (dVar 0)) (tTupl (tsCons (tName 2) (tsCons (tName 3) tsNil))) dYes (dTup (dCons (dVar 2) (dCons (d1 gTuple (dLC (dItems (dVar 3)) (tName 4) dYes (dOp gIx (dVar 1) (dVar 4)) [4])) dNil))) [2, 3]) dNil)))
@[irreducible] def m__law_turned : FDen := runBody 5 P__law_turned den__law_turned
abbrev P__law_spots : List Md := [.sh, .sh]
def den__law_spots : DenS :=
    (dSeq (dSet 2 (dCall m__law_atoms (dCons (dVar 0) (dCons (dC (.int 0)) dNil))))
    (dRet (d1 gTuple (dLC (dItems (dVar 1)) (tName 3) dYes (dIdx (dVar 2) (dVar 3)) [3]))))
@[irreducible] def m__law_spots : FDen := runBody 4 P__law_spots den__law_spots
abbrev P__law_some : List Md := [.pm, .sh, .sh]
def den__law_some : DenS :=
    (dRet (dLC (dItems (dVar 1)) (tName 3) (dB (dOp gEq (dCallP m__law_take 0 (dCons (dVar 2) dNil)) (dC (.int 0)))) (dVar 3) [3]))
@[irreducible] def m__law_some : FDen := runBody 4 P__law_some den__law_some
abbrev P__law_folded : List Md := [.sh, .sh]
def den__law_folded : DenS :=
    (dRet (dLC (dRng1 (dOp (gI0 fun i j => .int (if j > i then j else i)) (dC (.int 1)) (dOp (gI0 fun i j => .int (if j < i then j else i)) (dVar 1) (d1 gLen (dVar 0))))) (tName 2) dYes (d1 gSum (dSl3 (dVar 0) (dSo (dVar 2)) (dSo (dC (.int 63))) (dSo (dVar 1)))) [2]))
@[irreducible] def m__law_folded : FDen := runBody 3 P__law_folded den__law_folded
abbrev P__law_any_row : List Md := [.pm, .sh, .sh]
def den__law_any_row : DenS :=
    (dSeq (dSet 3 (dCall m__law_atoms (dCons (dVar 1) (dCons (dVar 2) dNil))))
    (dSeq (dSet 4 (dOp gIx (dLst (dCons (dC (.int 1)) (dCons (dC (.int 2)) (dCons (dC (.int 2)) (dCons (dC (.int 3)) (dCons (dC (.int 6)) dNil)))))) (dCallP m__law_take 0 (dCons (dC (.int 5)) dNil))))
    (dSeq (dSet 5 (dCallP m__law_some 0 (dCons (dVar 3) (dCons (dVar 4) dNil))))
    (dRet (dIf (dOr (dB (dOp (gI0 fun i j => .bool (decide (j < i))) (dVar 4) (dC (.int 1)))) (dB (dOp (gI0 fun i j => .bool (decide (j < i))) (dCallP m__law_take 0 (dCons (dC (.int 3)) dNil)) (dC (.int 0))))) (d1 gTuple (dVar 5)) (dTup dNil))))))
@[irreducible] def m__law_any_row : FDen := runBody 6 P__law_any_row den__law_any_row
abbrev P__law_due_kinds : List Md := [.sh, .sh]
def den__law_due_kinds : DenS :=
    (dSeq (dSetO 2 (dC (.dict [(.none, .none)])))
    (dSeq (dFor (dItems (dCall m__law_turnings (dCons (dOp gIx (dVar 0) (dC (.int 2))) dNil))) (tName 3) (dSeq (dSet 4 (dCall m__law_turned (dCons (dVar 1) (dCons (dVar 3) dNil))))
    (dStN 2 (dVar 4) (dCall m__law_spots (dCons (dVar 0) (dCons (dVar 4) dNil))))))
    (dRet (d1 gTuple (dLC (dItems (d1 gSorted (dVar 2))) (tName 5) dYes (dOpO gNGet 2 (dVar 5)) [5])))))
@[irreducible] def m__law_due_kinds : FDen := runBody 6 P__law_due_kinds den__law_due_kinds
abbrev P__law_even : List Md := [.sh, .sh]
def den__law_even : DenS :=
    (dSeq (dSetO 2 (dLst dNil))
    (dSeq (dFor (dItems (dCall m__law_turnings (dCons (dOp gIx (dVar 0) (dC (.int 2))) dNil))) (tName 3) (dExt 2 (dCall m__law_turned (dCons (dVar 1) (dCons (dVar 3) dNil)))))
    (dRet (dCall m__law_rising (dCons (dTake 2) dNil)))))
@[irreducible] def m__law_even : FDen := runBody 4 P__law_even den__law_even
abbrev P_law : List Md := [.sh]
def den_law : DenS :=
    (dSeq (dSet 1 (dCall m__law_folded (dCons (dVar 0) (dCons (dC (.int 6)) dNil))))
    (dSeq (dFor (dRng1 (d1 gLen (dVar 1))) (tName 2) (dSeq (dSetO 3 (dCall m__law_pool (dCons (dVar 1) (dCons (dVar 2) dNil))))
    (dSeq (dSet 4 (dCallP m__law_field 3 (dCons (dC (.int 10)) dNil)))
    (dSeq (dSetO 5 (dLst (dCons (dTup dNil) (dCons (dCallP m__law_any_row 3 (dCons (dVar 4) (dCons (dC (.int 0)) dNil))) (dCons (dCallP m__law_any_row 3 (dCons (dVar 4) (dCons (dC (.int 1)) dNil))) (dCons (dCallP m__law_any_row 3 (dCons (dVar 4) (dCons (dC (.int 1)) dNil))) dNil))))))
    (dSeq (dApp 5 (dCall m__law_even (dCons (dVar 4) (dCons (dSl (dOpO gIx 5 (dC (.int 2))) dNo (dSo (dC (.int 1)))) dNil))))
    (dFor (dItems (dTake 5)) (tName 6) (dSeq (dSet 7 (d1 gRepr (dTup (dCons (dVar 4) (dCons (dVar 6) dNil)))))
    (dSeq (dSet 8 (dCall m__law_due_kinds (dCons (dVar 4) (dCons (dVar 6) dNil))))
    (dSeq (dFor (dItems (dLst (dCons (dVar 6) (dCons (dOp gIx (dVar 8) (dNeg (dC (.int 1)))) dNil)))) (tName 9) (dIfS (dOr (dNot (dB (dCall (m__law_same 12) (dCons (dCall m_kinds_of (dCons (dVar 4) (dCons (dVar 9) dNil))) (dCons (dVar 8) dNil))))) (dNot (dB (dCall (m__law_same 12) (dCons (dCall m_least_row (dCons (dVar 4) (dCons (dVar 9) dNil))) (dCons (dOp gIx (dVar 8) (dC (.int 0))) dNil))))))
    (dRet (dC (.bool false)))
    dSkip))
    (dIfS (dB (dOp gNe (d1 gRepr (dTup (dCons (dVar 4) (dCons (dVar 6) dNil)))) (dVar 7)))
    (dRet (dC (.bool false)))
    dSkip))))))))))
    (dRet (dC (.bool true)))))
@[irreducible] def m_law : FDen := runBody 10 P_law den_law
end Mi

set_option Elab.async false
set_option linter.all false
set_option maxRecDepth 100000
set_option maxHeartbeats 1000000
set_option autoImplicit false
open PySem L2 PySem.Spec PD in
local macro_rules | `(tactic| walk_at "wp") => `(tactic| simp (config := {dsimp := false, maxSteps := 400000}) only [wp_ok, wp_bind, wp_var, wp_c, wp_nil, wp_cons, wp_tup, wp_lst, wp_op, wp_opO, wp_d1, wpb, wp_B, wp_and, wp_or, wp_not, wp_andV, wp_orV, wp_notV, wp_ifE, wp_chain, wp_im, wp_neg, wp_is, wp_is2, wp_no, wp_so, wp_sl, wp_slO, wp_skip, wp_seq, wp_bk, wp_ct, wp_drop, wp_ret, wp_retN, wp_ifS, wp_never, wp_set, wp_setO, wp_asg, wpo_name, wpo_tsnil, wpo_tscons, wpo_tupl, wpo_star, wpl, wp_app, wp_ext, wp_stL, wpd, wp_stK, wp_stN, wp_items, wp_signs, wp_rng1, wp_rng2, wp_zip, wp_enum, wp_for_, wp_lc_, wp_call, wpc, wp_callP, wp_take, wpi, wps, wpo_some, wpo_none, wpo_map, wpo_bind, ↓nx_nx, ↓nx_rt, ↓nx_bk, ↓nx_ct, ↓bt_t, ↓bt_f, turn_nx, turn_ct, turn_bk, turn_rt, fin_rt, fin_nx, wpo_gI, wpo_gI0, wpo_addI, wpo_addS, wpo_addL, wpo_addT, wpo_eq, wpo_ne, wpo_inL, wpo_inT, wpo_ninL, wpo_ninT, wpo_inS, wpo_isN, wpo_notN, wpo_lenL, wpo_lenT, wpo_lenS, wpo_tupL, wpo_tupT, wpo_lisL, wpo_lisT, wpo_intI, wpo_intB, wpo_ixL, wpo_ixT, wpo_ixS, wpo_slL, wpo_slT, wpo_slS, at_0, at_1, at_2, at_last, ix_0, ix_2, ok_int, ok_bool, ok_none, ok_str, eqv_int, eqv_str, eqv_bool, eqv_tt, eqv_st, eqv_ts, eqv_is, eqv_si, eqv_in, eqv_nn, eqv_ni, isT_int_none, isT_int_bool, isT_int_int, isT_int_str, isT_int_list, isT_int_tuple, isT_int_dict, isT_bool_none, isT_bool_bool, isT_bool_int, isT_bool_str, isT_bool_list, isT_bool_tuple, isT_bool_dict, isT_str_none, isT_str_bool, isT_str_int, isT_str_str, isT_str_list, isT_str_tuple, isT_str_dict, isT_tuple_none, isT_tuple_bool, isT_tuple_int, isT_tuple_str, isT_tuple_list, isT_tuple_tuple, isT_tuple_dict, isT_list_none, isT_list_bool, isT_list_int, isT_list_str, isT_list_list, isT_list_tuple, isT_list_dict, isT_dict_none, isT_dict_bool, isT_dict_int, isT_dict_str, isT_dict_list, isT_dict_tuple, isT_dict_dict, nn_int, nn_str, nn_tup, nn_none, mut_int, mut_str, mut_tup, mut_none, mut_list, mut_dict, seq_l, seq_t, zip_l, zip_t, nD, key_i, key_s, lineE, outs_nil, outs_sh, outs_pm, outs_fz, List.getElem?_cons_zero, List.getElem?_cons_succ, List.set_cons_zero, List.set_cons_succ, List.map_cons, List.map_nil, List.length_cons, List.length_nil, List.cons_append, List.nil_append, List.replicate_succ, List.replicate_zero, List.head?_cons, Nat.reduceSub, Nat.reduceAdd, Nat.reduceLeDiff, Nat.reduceLT, Nat.sub_zero, Nat.sub_self, Int.reduceAdd, Int.reduceSub, Int.reduceNeg, Int.reduceLT, Int.reduceLE, Int.reduceToNat, Bool.not_true, Bool.not_false, Bool.or_true, Bool.or_false, Bool.true_or, Bool.false_or, Bool.and_true, Bool.and_false, Bool.true_and, Bool.false_and, decide_true, decide_false, true_and, and_true, false_and, and_false, Option.map_some, Option.map_none, wipeE, List.any_cons, List.any_nil, Nat.zero_add, Nat.reduceEqDiff, and_self, reduceIte, Int.reduceEq, w_not_both, w_not_either, w_not_turned, w_not_chain, w_not_some, w_both_not, w_both_either, w_both_turned, w_both_chain, w_both_some, w_either_not, w_either_both, w_either_turned, w_either_chain, w_either_some, w_turned_not, w_turned_both, w_turned_either, w_turned_chain, w_turned_some, w_chain_not, w_chain_both, w_chain_either, w_chain_turned, w_chain_some, w_some_not, w_some_both, w_some_either, w_some_turned, w_some_chain, di_not, di_both, di_either, di_turned, di_chain, di_some, wp_join, wp_idx, wp_sl3, wp_dget1, wp_inC, wp_getC, wp_for_nil, wp_for_cons, wp_lcA_nil, wp_lcA_cons, wp_lc_nil, wp_lc_cons, wp_yes, unw_cc, unw_nil, List.mem_cons, List.not_mem_nil, or_false, false_or, or_true, true_or, not_false_eq_true, not_true_eq_false, eq_self, PyData.eqvAll, Nat.reduceLT, Nat.reduceEqDiff, Nat.zero_ne_one, Nat.one_ne_zero, wpf_ok, wpo_joinL, strs_cons, strs_nil, ints_cons, ints_nil, wpo_minL, least_1, least_2, okl_nil, okt_nil, okl_int, okl_int2, if_true, if_false, Int.reduceAdd, not_true, List.foldr_nil, sc_int, sc_str, sc_none, okt_sc, okl_sc, at_m1, at_m2, cut_1, List.all_cons, List.all_nil, Bool.and_self, natc_0, natc_1, natc_2, natc_3, natc_4, natc_5, natc_6, natc_7, Bool.false_eq_true, Int.zero_ne_one, Int.one_ne_zero, true_imp_iff, false_imp_iff])
namespace Mz
open PySem L2 PySem.Spec PD Mi
/-- a pool, its counter at most n -/
structure Pool (n : Nat) (p : PyData) : Prop where
  ex : ∃ a b c : Int, p = .list [.int a, .int b, .int c] ∧ 0 ≤ a ∧ 0 ≤ b ∧ b < 1000000007 ∧ 0 ≤ c ∧ c ≤ n
theorem take_ok {n : Nat} {p : PyData} {m : Int} (h : Pool n p) (h0 : 0 < m) (h1 : m < 1000) (hn : n < 1000000) : WpF (m__law_take [p, .int m]) fun d ps => ∃ k p', d = .int k ∧ ps = [p', .int m] ∧ 0 ≤ k ∧ k < m ∧ Pool (n + 1) p' := by
  obtain ⟨a, b, c, rfl, ha, hb, hb2, hc, hc2⟩ := h.ex
  unfold m__law_take den__law_take
  refine wpf_run rfl ?_
  walk_at "wp"
  refine Bt.dec (fun hp => ?_) fun hp => ?_
  · walk_at "wp"
    refine ⟨h0, ⟨by omega, by omega⟩, a % m, _, rfl, rfl, Int.emod_nonneg _ (by omega), Int.emod_lt_of_pos _ h0, ⟨a / m, b, c, rfl, Int.ediv_nonneg ha (by omega), hb, hb2, hc, by omega⟩⟩
  · walk_at "wp"
    have q0 : 0 ≤ 69621 * (c + 1) * (c + 1) := Int.mul_nonneg (by omega) (by omega)
    have q1 : 69621 * (c + 1) * (c + 1) ≤ 69621 * 1000001 * 1000001 := Int.mul_le_mul (by omega) (by omega) (by omega) (by omega)
    refine ⟨.inr (by omega), .inl (by omega), ⟨by omega, by omega, by omega⟩, .inl (by omega), .inr (by omega), ⟨by omega, by omega, by omega⟩, .inr (by omega), ⟨by omega, by omega⟩, h0, _, _, rfl, rfl, Int.emod_nonneg _ (by omega), Int.emod_lt_of_pos _ h0, ⟨a, b, c + 1, rfl, ha, hb, hb2, by omega, by omega⟩⟩
end Mz

set_option Elab.async false
set_option linter.all false
set_option maxRecDepth 100000
set_option maxHeartbeats 1000000
set_option autoImplicit false
namespace Mz
open PySem L2 PySem.Spec PD PyProof.Rows PySem.W Mi
theorem sp1 : ((" " : Str)).length = 1 := by decide +kernel
theorem text_of_ok : ∀ (t : Tm) (n : Nat), t.dep < n → t.dep ≤ 3 → t.short → m_text_of n [t.e] = .ok (.str t.txt) [t.e]
  | .nm s, n + 1, _, _, _ => by
    refine WpF.eq ?_
    rw [m_text_of_s]
    refine wpf_run rfl ?_
    unfold den_text_of
    simp only [Tm.e]
    walk_at "wp"
    rfl
  | .un w t, n + 1, h, h3, hs => by
    simp only [Tm.dep] at h h3
    have ih := text_of_ok t n (by omega) (by omega) hs.2
    have b := Tm.txt_len t hs.2
    have p : 2 ^ t.dep ≤ 2 ^ 3 := Nat.pow_le_pow_right (by omega) (by omega)
    have q := hs.1
    refine WpF.eq ?_
    rw [m_text_of_s]
    refine wpf_run rfl ?_
    unfold den_text_of
    simp only [Tm.e]
    walk_at "wp"
    rw [ih]
    walk_at "wp"
    refine ⟨?_, rfl⟩
    simp only [sp1, List.sum_cons, List.sum_nil]
    omega
  | .bi w t u, n + 1, h, h3, hs => by
    simp only [Tm.dep] at h h3
    have ih := text_of_ok t n (by omega) (by omega) hs.2.1
    have ih2 := text_of_ok u n (by omega) (by omega) hs.2.2
    have b := Tm.txt_len t hs.2.1
    have b2 := Tm.txt_len u hs.2.2
    have p : 2 ^ t.dep ≤ 2 ^ 3 := Nat.pow_le_pow_right (by omega) (by omega)
    have p2 : 2 ^ u.dep ≤ 2 ^ 3 := Nat.pow_le_pow_right (by omega) (by omega)
    have q := hs.1
    refine WpF.eq ?_
    rw [m_text_of_s]
    refine wpf_run rfl ?_
    unfold den_text_of
    simp only [Tm.e]
    walk_at "wp"
    rw [ih]
    walk_at "wp"
    rw [ih2]
    walk_at "wp"
    refine ⟨?_, rfl⟩
    simp only [sp1, List.sum_cons, List.sum_nil]
    omega
theorem own_terms_ok (t : Tm) : m_own_terms [t.e] = .ok (.tuple (match t with | .nm _ => [] | .un _ t => [t.e] | .bi _ t u => [t.e, u.e])) [t.e] := by
  refine WpF.eq ?_
  unfold m_own_terms
  refine wpf_run rfl ?_
  unfold den_own_terms
  cases t <;> (simp only [Tm.e]; walk_at "wp")
theorem parts_len : ∀ t : Tm, t.parts.length < 2 ^ (t.dep + 1)
  | .nm s => by simp [Tm.parts, Tm.dep]
  | .un w t => by
    have := parts_len t
    simp only [Tm.parts, Tm.dep, List.length_cons]
    rw [Nat.pow_succ]; omega
  | .bi w t u => by
    have h1 := parts_len t
    have h2 := parts_len u
    have p1 : 2 ^ (t.dep + 1) ≤ 2 ^ (max t.dep u.dep + 1) := Nat.pow_le_pow_right (by omega) (by omega)
    have p2 : 2 ^ (u.dep + 1) ≤ 2 ^ (max t.dep u.dep + 1) := Nat.pow_le_pow_right (by omega) (by omega)
    simp only [Tm.parts, Tm.dep, List.length_cons, List.length_append]
    rw [Nat.pow_succ 2 (max t.dep u.dep + 1)]; omega
theorem parts_len3 {t : Tm} (h : t.dep ≤ 3) : t.parts.length < 16 := by
  have := parts_len t
  have : 2 ^ (t.dep + 1) ≤ 2 ^ 4 := Nat.pow_le_pow_right (by omega) (by omega)
  omega
theorem all_parts_ok : ∀ (t : Tm) (n : Nat), t.dep < n → t.dep ≤ 3 → m_all_parts n [t.e] = .ok (.list (t.parts.map Tm.e)) [t.e]
  | .nm s, n + 1, _, _ => by
    refine WpF.eq ?_
    rw [m_all_parts_s]
    refine wpf_run rfl ?_
    unfold den_all_parts
    have o := own_terms_ok (.nm s)
    simp only [Tm.e] at o ⊢
    walk_at "wp"
    rw [o]
    walk_at "wp"
    rfl
  | .un w t, n + 1, h, h3 => by
    simp only [Tm.dep] at h h3
    have ih := all_parts_ok t n (by omega) (by omega)
    have l := parts_len3 (t := t) (by omega)
    refine WpF.eq ?_
    rw [m_all_parts_s]
    refine wpf_run rfl ?_
    unfold den_all_parts
    have o := own_terms_ok (.un w t)
    simp only [Tm.e] at o ⊢
    walk_at "wp"
    rw [o]
    walk_at "wp"
    rw [ih]
    walk_at "wp"
    refine ⟨by simp only [List.length_map]; omega, rfl⟩
  | .bi w t u, n + 1, h, h3 => by
    simp only [Tm.dep] at h h3
    have ih := all_parts_ok t n (by omega) (by omega)
    have ih2 := all_parts_ok u n (by omega) (by omega)
    have l := parts_len3 (t := t) (by omega)
    have l2 := parts_len3 (t := u) (by omega)
    refine WpF.eq ?_
    rw [m_all_parts_s]
    refine wpf_run rfl ?_
    unfold den_all_parts
    have o := own_terms_ok (.bi w t u)
    simp only [Tm.e] at o ⊢
    walk_at "wp"
    rw [o]
    walk_at "wp"
    rw [ih]
    walk_at "wp"
    refine ⟨by simp only [List.length_map]; omega, ?_⟩
    rw [ih2]
    walk_at "wp"
    refine ⟨by simp only [List.length_append, List.length_map]; omega, by simp [Tm.parts, Tm.e]⟩
/-! places -/
abbrev dct (N : Ns) : PyData := .dict (encD PyData.str nat N)
theorem nat_e (n : Nat) : nat n = .int (n : Int) := rfl
theorem made_not {i : Int} : m_made_places [.str "not", .list [.int i]] = .ok (.int i) [.str "not", .list [.int i]] := by
  refine WpF.eq ?_
  unfold m_made_places
  refine wpf_run rfl ?_
  unfold den_made_places
  walk_at "wp"
theorem made_both {i : Int} : m_made_places [.str "both", .list [.int i, .int i]] = .ok (.int i) [.str "both", .list [.int i, .int i]] := by
  refine WpF.eq ?_
  unfold m_made_places
  refine wpf_run rfl ?_
  unfold den_made_places
  walk_at "wp"
theorem made_either {i : Int} : m_made_places [.str "either", .list [.int i, .int i]] = .ok (.int i) [.str "either", .list [.int i, .int i]] := by
  refine WpF.eq ?_
  unfold m_made_places
  refine wpf_run rfl ?_
  unfold den_made_places
  walk_at "wp"
theorem made_chain : m_made_places [.str "chain", .list [.int 2, .int 2]] = .ok (.int 2) [.str "chain", .list [.int 2, .int 2]] := by
  refine WpF.eq ?_
  unfold m_made_places
  refine wpf_run rfl ?_
  unfold den_made_places
  walk_at "wp"
theorem made_turned : m_made_places [.str "turned", .list [.int 2]] = .ok (.int 2) [.str "turned", .list [.int 2]] := by
  refine WpF.eq ?_
  unfold m_made_places
  refine wpf_run rfl ?_
  unfold den_made_places
  walk_at "wp"
theorem made_some : m_made_places [.str "some", .list [.int 2]] = .ok (.int 1) [.str "some", .list [.int 2]] := by
  refine WpF.eq ?_
  unfold m_made_places
  refine wpf_run rfl ?_
  unfold den_made_places
  walk_at "wp"
theorem places_below_ok {N : Ns} (nd : (N.map (·.1)).Nodup) : ∀ {t : Tm} {p : Nat} (h : Ty N t p) (n left : Nat), t.dep < n → t.dep ≤ left → left ≤ 3 → m_places_below n [dct N, t.e, nat left] = .ok (nat p) [dct N, t.e, nat left]
  | _, _, .nm (s := s) (p := p) h, n + 1, left, _, _, _ => by
    refine WpF.eq ?_
    rw [m_places_below_s]
    refine wpf_run rfl ?_
    unfold den_places_below
    simp only [Tm.e]
    walk_at "wp"
    rw [flat_find flatStr, look_nd nd h]
    exact ⟨flat_isN flatStr, rfl, rfl⟩
  | _, _, .not (t := t) (p := p) h, n + 1, left, hn, hl, hl3 => by
    simp only [Tm.dep] at hn hl
    have z : ¬ (left : Int) = 0 := by omega
    have z2 : (left : Int) - 1 = ((left - 1 : Nat) : Int) := by omega
    have o2 : okD (.tuple [.str "not", t.e]) = true := Tm.ok (.un "not" t) (by simp only [Tm.dep]; omega)
    have ih0 := places_below_ok nd h n (left - 1) (by omega) (by omega) (by omega)
    refine WpF.eq ?_
    rw [m_places_below_s]
    refine wpf_run rfl ?_
    unfold den_places_below
    simp only [Tm.e, nat_e] at ih0 ⊢
    walk_at "wp"
    refine bt_df z ?_
    walk_at "wp"
    refine ⟨o2, ?_⟩
    rw [z2, ih0]
    walk_at "wp"
    rw [made_not]
    walk_at "wp"
  | _, _, .both (t := t) (u := u) (p := p) h g, n + 1, left, hn, hl, hl3 => by
    simp only [Tm.dep] at hn hl
    have z : ¬ (left : Int) = 0 := by omega
    have z2 : (left : Int) - 1 = ((left - 1 : Nat) : Int) := by omega
    have o2 : okD (.tuple [.str "both", t.e, u.e]) = true := Tm.ok (.bi "both" t u) (by simp only [Tm.dep]; omega)
    have ih0 := places_below_ok nd h n (left - 1) (by omega) (by omega) (by omega)
    have ih1 := places_below_ok nd g n (left - 1) (by omega) (by omega) (by omega)
    refine WpF.eq ?_
    rw [m_places_below_s]
    refine wpf_run rfl ?_
    unfold den_places_below
    simp only [Tm.e, nat_e] at ih0 ih1 ⊢
    walk_at "wp"
    refine bt_df z ?_
    walk_at "wp"
    refine ⟨o2, ?_⟩
    rw [z2, ih0]
    walk_at "wp"
    rw [z2, ih1]
    walk_at "wp"
    rw [made_both]
    walk_at "wp"
  | _, _, .either (t := t) (u := u) (p := p) h g, n + 1, left, hn, hl, hl3 => by
    simp only [Tm.dep] at hn hl
    have z : ¬ (left : Int) = 0 := by omega
    have z2 : (left : Int) - 1 = ((left - 1 : Nat) : Int) := by omega
    have o2 : okD (.tuple [.str "either", t.e, u.e]) = true := Tm.ok (.bi "either" t u) (by simp only [Tm.dep]; omega)
    have ih0 := places_below_ok nd h n (left - 1) (by omega) (by omega) (by omega)
    have ih1 := places_below_ok nd g n (left - 1) (by omega) (by omega) (by omega)
    refine WpF.eq ?_
    rw [m_places_below_s]
    refine wpf_run rfl ?_
    unfold den_places_below
    simp only [Tm.e, nat_e] at ih0 ih1 ⊢
    walk_at "wp"
    refine bt_df z ?_
    walk_at "wp"
    refine ⟨o2, ?_⟩
    rw [z2, ih0]
    walk_at "wp"
    rw [z2, ih1]
    walk_at "wp"
    rw [made_either]
    walk_at "wp"
  | _, _, .chain (t := t) (u := u) h g, n + 1, left, hn, hl, hl3 => by
    simp only [Tm.dep] at hn hl
    have z : ¬ (left : Int) = 0 := by omega
    have z2 : (left : Int) - 1 = ((left - 1 : Nat) : Int) := by omega
    have o2 : okD (.tuple [.str "chain", t.e, u.e]) = true := Tm.ok (.bi "chain" t u) (by simp only [Tm.dep]; omega)
    have ih0 := places_below_ok nd h n (left - 1) (by omega) (by omega) (by omega)
    have ih1 := places_below_ok nd g n (left - 1) (by omega) (by omega) (by omega)
    refine WpF.eq ?_
    rw [m_places_below_s]
    refine wpf_run rfl ?_
    unfold den_places_below
    simp only [Tm.e, nat_e] at ih0 ih1 ⊢
    walk_at "wp"
    refine bt_df z ?_
    walk_at "wp"
    refine ⟨o2, ?_⟩
    rw [z2, ih0]
    walk_at "wp"
    rw [z2, ih1]
    walk_at "wp"
    rw [made_chain]
    walk_at "wp"
  | _, _, .turned (t := t) h, n + 1, left, hn, hl, hl3 => by
    simp only [Tm.dep] at hn hl
    have z : ¬ (left : Int) = 0 := by omega
    have z2 : (left : Int) - 1 = ((left - 1 : Nat) : Int) := by omega
    have o2 : okD (.tuple [.str "turned", t.e]) = true := Tm.ok (.un "turned" t) (by simp only [Tm.dep]; omega)
    have ih0 := places_below_ok nd h n (left - 1) (by omega) (by omega) (by omega)
    refine WpF.eq ?_
    rw [m_places_below_s]
    refine wpf_run rfl ?_
    unfold den_places_below
    simp only [Tm.e, nat_e] at ih0 ⊢
    walk_at "wp"
    refine bt_df z ?_
    walk_at "wp"
    refine ⟨o2, ?_⟩
    rw [z2, ih0]
    walk_at "wp"
    rw [made_turned]
    walk_at "wp"
  | _, _, .some (t := t) h, n + 1, left, hn, hl, hl3 => by
    simp only [Tm.dep] at hn hl
    have z : ¬ (left : Int) = 0 := by omega
    have z2 : (left : Int) - 1 = ((left - 1 : Nat) : Int) := by omega
    have o2 : okD (.tuple [.str "some", t.e]) = true := Tm.ok (.un "some" t) (by simp only [Tm.dep]; omega)
    have ih0 := places_below_ok nd h n (left - 1) (by omega) (by omega) (by omega)
    refine WpF.eq ?_
    rw [m_places_below_s]
    refine wpf_run rfl ?_
    unfold den_places_below
    simp only [Tm.e, nat_e] at ih0 ⊢
    walk_at "wp"
    refine bt_df z ?_
    walk_at "wp"
    refine ⟨o2, ?_⟩
    rw [z2, ih0]
    walk_at "wp"
    rw [made_some]
    walk_at "wp"
end Mz

set_option Elab.async false
set_option linter.all false
set_option maxRecDepth 100000
set_option maxHeartbeats 1000000
set_option autoImplicit false
namespace Mz
open PySem L2 PySem.Spec PD PyProof.Rows PySem.W Mi
/-- texts of terms -/
def TxOk (ts : List Tm) : Prop := ∀ t ∈ ts, t.short ∧ t.dep ≤ 3
abbrev dcT (δ : List (Str × Tm)) : PyData := .dict (encD PyData.str Tm.e δ)
theorem sortOk_str {ks : List Str} : sortOk (ks.map PyData.str) = true :=
  sortOk_of (fun k _ => ⟨rfl, by simp [PyData.depth], by simp⟩) (fun _ _ _ _ => rfl) (.inr (.inr fun _ _ => rfl))
theorem look_fill {ts : List Tm} {k : Str} (h : k ∈ keys (kfill Tm.txt id ts)) : ∃ t, klook (kfill Tm.txt id ts) k = some t := by
  cases e : klook (kfill Tm.txt id ts) k with
  | none => exact absurd h (klook_none.mp e)
  | some t => exact ⟨t, rfl⟩
theorem seq_ok {d : PyData} {ds : List PyData} (h : seqOf d = some ds) : WpO (seqOf d) = WpO (some ds) := by rw [h]
theorem by_texts_ok {d : PyData} {ts : List Tm} (hd : seqOf d = some (ts.map Tm.e)) (h : TxOk ts) (hl : ts.length ≤ 1000000) : m_by_texts [d] = .ok (.tuple ((byT ts).map Tm.e)) [d] := by
  refine WpF.eq ?_
  unfold m_by_texts
  refine wpf_run rfl ?_
  unfold den_by_texts
  walk_at "wp"
  refine wp_dc (e := Tm.e) (xs := ts) (δ := List (Str × Tm)) dcT (fun δ t => kput δ t.txt t) [] List.length ?_ rfl rfl ?_ ?_
  · walk_at "wp"
    rw [hd]
    walk_at "wp"
  · intro t ht acc hacc
    walk_at "wp"
    rw [text_of_ok t 6 (by have := (h t ht).2; omega) (h t ht).2 (h t ht).1]
    walk_at "wp"
    exact ⟨putF_put flatStr (show acc.length < sizeLine by rw [lineE]; omega), kput_len⟩
  · walk_at "wp"
    show WpO (gSorted (dcT (kfill Tm.txt id ts))) _
    rw [wpo_sorted (keysD_flat flatStr) sortOk_str]
    walk_at "wp"
    refine wp_lcM (e := PyData.str) (fun k => Tm.e ((klook (kfill Tm.txt id ts) k).getD default)) (fun k hk => ?_) ?_ ?_
    · obtain ⟨u, hu⟩ := look_fill (ksort_mem.mp hk)
      walk_at "wp"
      show WpO (gDGet (dcT (kfill Tm.txt id ts)) _) _
      rw [wpo_dget flatStr, hu]
      walk_at "wp"
      rfl
    · rw [ksort_len, lineE]
      have := kfill_len (kf := Tm.txt) (vf := id) (xs := ts)
      simp only [keys, List.length_map]; omega
    · walk_at "wp"
      unfold byT
      rw [List.map_map]; rfl
theorem fall {τ υ : Type} {xs : List τ} {F : τ → List υ} {f : τ → υ → PyData} : (xs.flatMap fun x => ((F x).filter fun _ => true).map (f x)) = xs.flatMap fun x => (F x).map (f x) := by
  congr 1; funext x
  rw [List.filter_eq_self.mpr (by simp)]
theorem parts_tx : ∀ {t : Tm}, t.short → ∀ u ∈ t.parts, u.short ∧ u.dep ≤ t.dep
  | .nm s, h, u, hu => by
    simp only [Tm.parts, List.mem_singleton] at hu
    subst hu; exact ⟨h, Nat.le_refl _⟩
  | .un w t, h, u, hu => by
    simp only [Tm.parts, List.mem_cons] at hu
    rcases hu with rfl | hu
    · exact ⟨h, Nat.le_refl _⟩
    · obtain ⟨a, b⟩ := parts_tx h.2 u hu
      exact ⟨a, by simp only [Tm.dep]; omega⟩
  | .bi w t v, h, u, hu => by
    simp only [Tm.parts, List.mem_cons, List.mem_append] at hu
    rcases hu with rfl | hu | hu
    · exact ⟨h, Nat.le_refl _⟩
    · obtain ⟨a, b⟩ := parts_tx h.2.1 u hu
      exact ⟨a, by simp only [Tm.dep]; omega⟩
    · obtain ⟨a, b⟩ := parts_tx h.2.2 u hu
      exact ⟨a, by simp only [Tm.dep]; omega⟩
theorem flat_len {τ υ : Type} {F : τ → List υ} {n : Nat} : ∀ {xs : List τ}, (∀ x ∈ xs, (F x).length ≤ n) → (xs.flatMap F).length ≤ xs.length * n
  | [], _ => Nat.zero_le _
  | x :: xs, h => by
    have h1 := h x (by simp)
    have h2 := flat_len (xs := xs) fun y hy => h y (by simp [hy])
    rw [List.flatMap_cons, List.length_append, List.length_cons, Nat.add_mul]; omega
structure ShOk (N : Ns) (sh : List Tm) : Prop where
  nl : N.length ≤ 3
  n8 : ∀ n ∈ N, n.1.length ≤ 8
  sl : sh.length ≤ 10
  tx : TxOk sh
theorem ShOk.all {N : Ns} {sh : List Tm} (h : ShOk N sh) : TxOk (allT N sh) := by
  intro t ht
  simp only [allT, List.mem_append, List.mem_map, List.mem_flatMap] at ht
  rcases ht with ⟨n, hn, rfl⟩ | ⟨u, hu, ht⟩
  · exact ⟨h.n8 n hn, by simp [Tm.dep]⟩
  · obtain ⟨a, b⟩ := parts_tx (h.tx u hu).1 t ht
    exact ⟨a, by have := (h.tx u hu).2; omega⟩
theorem ShOk.flat {N : Ns} {sh : List Tm} (h : ShOk N sh) : (sh.flatMap Tm.parts).length ≤ 160 := by
  have := flat_len (F := Tm.parts) (n := 16) (xs := sh) fun t ht => Nat.le_of_lt (parts_len3 (h.tx t ht).2)
  have := h.sl
  omega
theorem ShOk.len {N : Ns} {sh : List Tm} (h : ShOk N sh) : (allT N sh).length ≤ 163 := by
  have := h.flat
  have := h.nl
  simp only [allT, List.length_append, List.length_map]; omega
theorem terms_by_ok {N : Ns} {sh : List Tm} (h : ShOk N sh) : m_terms_by [nsE N, .tuple (sh.map Tm.e)] = .ok (.tuple ((tmsOf N sh).map Tm.e)) [nsE N, .tuple (sh.map Tm.e)] := by
  have l1 := h.flat
  have l2 := h.nl
  refine WpF.eq ?_
  unfold m_terms_by
  refine wpf_run rfl ?_
  unfold den_terms_by
  unfold nsE
  walk_at "wp"
  refine wp_lcM (e := noE) (fun n => .str n.1) (fun n hn => ?_) (by rw [lineE]; omega) ?_
  · unfold noE
    walk_at "wp"
  · refine wp_lc2 (e := Tm.e) (e1 := Tm.e) (xs := sh) Tm.parts (fun _ _ => true) (fun _ u => u.e) ?_ (fun t ht => ?_) ?_ ?_
    · walk_at "wp"
    · walk_at "wp"
      rw [all_parts_ok t 6 (by have := (h.tx t ht).2; omega) (h.tx t ht).2]
      walk_at "wp"
      intro y hy
      simp
    · rw [fall, lineE]
      simp only [← List.map_flatMap, List.length_map]; omega
    · rw [fall]
      walk_at "wp"
      simp only [← List.map_flatMap, List.length_map]
      refine ⟨by omega, ?_⟩
      have e : ((N.map fun n => PyData.str n.1) ++ (sh.flatMap Tm.parts).map Tm.e) = (allT N sh).map Tm.e := by
        unfold allT
        rw [List.map_append, List.map_map]; rfl
      rw [e, by_texts_ok seq_l h.all (by have := h.len; omega)]
      walk_at "wp"
      rfl
/-! rows of unknowns -/
theorem rng_eq {n : Nat} : rngD 0 ((n : Int)).toNat = (List.range n).map nat := by
  unfold rngD
  rw [Int.toNat_natCast]
  apply List.map_congr_left
  intro i _
  show PyData.int (0 + (i : Int)) = PyData.int i
  rw [Int.zero_add]
theorem rws_len (m : Nat) : ∀ k, (rws m k).length = m ^ k
  | 0 => rfl
  | k + 1 => by
    have : ∀ (l : List (List Nat)), (l.flatMap fun r => (List.range m).map fun o => r ++ [o]).length = l.length * m := by
      intro l
      induction l with
      | nil => simp
      | cons x l ih => rw [List.flatMap_cons, List.length_append, ih, List.length_map, List.length_range, List.length_cons, Nat.add_mul]; omega
    rw [rws, this, rws_len m k, Nat.pow_succ]
theorem rws_item (m : Nat) : ∀ k, ∀ r ∈ rws m k, r.length = k
  | 0, r, h => by simp only [rws, List.mem_singleton] at h; subst h; rfl
  | k + 1, r, h => by
    simp only [rws, List.mem_flatMap, List.mem_map] at h
    obtain ⟨s, hs, o, _, rfl⟩ := h
    rw [List.length_append, rws_item m k s hs]; rfl
theorem unknown_rows_ok {m p : Nat} (hm : m ≤ 10) (hp : p ≤ 2) : m_unknown_rows [nat m, nat p] = .ok (.list ((rws m p).map nats)) [nat m, nat p] := by
  refine WpF.eq ?_
  unfold m_unknown_rows
  refine wpf_run rfl ?_
  unfold den_unknown_rows
  walk_at "wp"
  simp only [nat_e]
  walk_at "wp"
  rw [rng_eq]
  refine ⟨by omega, ?_⟩
  refine wp_for (e := nat) (xs := List.range p) (fun pre ρ => ∃ o, ρ = [some (.int m), some (.int p), some (.list ((rws m pre.length).map nats)), o, none, none]) ⟨_, rfl⟩ (fun pre x post ρ hx hI => ?_) fun ρ hI => ?_
  · obtain ⟨o, rfl⟩ := hI
    have hk : pre.length ≤ 2 := by
      have := congrArg List.length hx
      simp only [List.length_range, List.length_append, List.length_cons] at this
      omega
    have hb : (rws m pre.length).length ≤ 10 ^ 2 := by
      rw [rws_len]
      exact Nat.le_trans (Nat.pow_le_pow_left hm _) (Nat.pow_le_pow_right (by omega) hk)
    walk_at "wp"
    refine wp_lc2 (e := nats) (e1 := nat) (xs := rws m pre.length) (fun _ => List.range m) (fun _ _ => true) (fun r o => nats (r ++ [o])) ?_ (fun r hr => ?_) ?_ ?_
    · walk_at "wp"
    · walk_at "wp"
      rw [rng_eq]
      refine ⟨by omega, rfl, fun y hy => ?_⟩
      unfold nats
      walk_at "wp"
      simp only [List.length_map, rws_item m _ r hr]
      simp
      omega
    · rw [fall, lineE]
      have := flat_len (F := fun r : List Nat => (List.range m).map fun o => nats (r ++ [o])) (n := 10) (xs := rws m pre.length) fun r _ => by simpa using hm
      omega
    · rw [fall]
      walk_at "wp"
      refine ⟨some (nat x), ?_⟩
      rw [List.length_append, List.length_cons, List.length_nil]
      simp only [rws, List.map_flatMap, List.map_map]
      rfl
  · obtain ⟨o, rfl⟩ := hI
    rw [List.length_range]
    walk_at "wp"
end Mz

set_option Elab.async false
set_option linter.all false
set_option maxRecDepth 100000
set_option maxHeartbeats 1000000
set_option autoImplicit false
namespace Mz
open PySem L2 PySem.Spec PD PyProof.Rows PySem.W Mi
/-! places of a term -/
theorem kput_new {κ τ : Type} [DecidableEq κ] {δ : List (κ × τ)} {k : κ} {t : τ} (h : k ∉ keys δ) : kput δ k t = δ ++ [(k, t)] := by
  unfold kput
  rw [if_neg (fun z => h (any_keys.mp z))]
theorem pairs_ns : ∀ N : Ns, pairsD (N.map noE) = some (N.map fun n => (Sum.inr n.1, nat n.2))
  | [] => rfl
  | n :: N => by
    show (toKey (.str n.1)).bind _ = _
    rw [pairs_ns N]; rfl
theorem merge_ns : ∀ (N δ : Ns), ((δ ++ N).map (·.1)).Nodup → dmerge (encD PyData.str nat δ) (N.map fun n => (Sum.inr n.1, nat n.2)) = encD PyData.str nat (δ ++ N)
  | [], δ, _ => by rw [List.append_nil]; rfl
  | n :: N, δ, h => by
    have hk : n.1 ∉ keys δ := fun z => by
      rw [List.map_append, List.nodup_append] at h
      exact h.2.2 n.1 z n.1 (by simp) rfl
    have e : dput (encD PyData.str nat δ) (Sum.inr n.1) (nat n.2) = encD PyData.str nat (δ ++ [n]) := by
      rw [flat_put flatStr, kput_new hk]
    show dmerge (dput (encD PyData.str nat δ) (Sum.inr n.1) (nat n.2)) _ = _
    rw [e, merge_ns N (δ ++ [n]) (by simpa using h)]
    simp
theorem gDict_ns {N : Ns} (nd : (N.map (·.1)).Nodup) : gDictT (nsE N) = some (dct N) := by
  show (pairsD (N.map noE)).map _ = _
  rw [pairs_ns]
  show some (PyData.dict (dmerge (encD PyData.str nat []) _)) = _
  rw [merge_ns N [] (by simpa using nd)]; rfl
theorem places_in_ok {N : Ns} (nd : (N.map (·.1)).Nodup) {t : Tm} {p : Nat} (h : Ty N t p) (h3 : t.dep ≤ 3) : m_places_in [nsE N, t.e] = .ok (nat p) [nsE N, t.e] := by
  have e := places_below_ok nd h 5 3 (by omega) h3 (by omega)
  refine WpF.eq ?_
  unfold m_places_in
  refine wpf_run rfl ?_
  unfold den_places_in
  walk_at "wp"
  rw [gDict_ns nd]
  walk_at "wp"
  rw [show (PyData.int 3) = nat 3 from rfl, e]
  walk_at "wp"
/-- all of them are terms, not too deep -/
def TysOk (N : Ns) (ts : List Tm) : Prop := ∀ t ∈ ts, (∃ p, Ty N t p) ∧ t.dep ≤ 3
def cnt (N : Ns) (m : Nat) (ts : List Tm) : Nat := (ts.map fun t => (rws m (wd N t)).length).sum
theorem sum_cast : ∀ (l : List Nat), (l.map fun (n : Nat) => (n : Int)).sum = ((l.sum : Nat) : Int)
  | [] => rfl
  | a :: l => by rw [List.map_cons, List.sum_cons, List.sum_cons, sum_cast l]; omega
theorem cnt_atoms {N : Ns} {sh : List Tm} {m : Nat} : ∀ {ts : List Tm}, (atomsOf N sh m ts).length = cnt N m ts
  | [] => rfl
  | t :: ts => by
    unfold atomsOf cnt
    rw [List.flatMap_cons, List.length_append, List.length_map, List.map_cons, List.sum_cons]
    rw [← cnt, ← cnt_atoms (N := N) (sh := sh)]; rfl
theorem many_atoms_ok {N : Ns} (ok : NsOk N) {ts : List Tm} {m : Nat} (hm : m ≤ 10) (h : TysOk N ts) (hl : ts.length ≤ 1000000) : m_many_atoms [nsE N, .tuple (ts.map Tm.e), nat m] = .ok (nat (cnt N m ts)) [nsE N, .tuple (ts.map Tm.e), nat m] := by
  refine WpF.eq ?_
  unfold m_many_atoms
  refine wpf_run rfl ?_
  unfold den_many_atoms
  walk_at "wp"
  refine wp_lcM (e := Tm.e) (fun t => .int (((rws m (wd N t)).length : Nat) : Int)) (fun t ht => ?_) (by rw [lineE]; omega) ?_
  · obtain ⟨⟨p, hp⟩, hd⟩ := h t ht
    have p12 := hp.p12 fun n hn => (ok.ok n hn).2
    walk_at "wp"
    rw [places_in_ok ok.nd hp hd]
    walk_at "wp"
    rw [unknown_rows_ok hm (by omega)]
    walk_at "wp"
    rw [List.length_map, hp.wd ok.nd]
  · try walk_at "wp"
    rw [wpo_sum]
    walk_at "wp"
    have e : (ts.map fun t => (((rws m (wd N t)).length : Nat) : Int)).sum = ((cnt N m ts : Nat) : Int) := by
      unfold cnt
      rw [← sum_cast, List.map_map]; rfl
    rw [e]; rfl
/-! notions -/
theorem within_ok {i a b : Int} (h1 : a ≤ i) (h2 : i ≤ b) : m_is_within [.int i, .int a, .int b] = .ok (.bool true) [.int i, .int a, .int b] := by
  refine WpF.eq ?_
  unfold m_is_within
  refine wpf_run rfl ?_
  unfold den_is_within
  walk_at "wp"
  refine bt_dt h1 ?_
  walk_at "wp"
  rw [decide_eq_true h2]
abbrev letters : Str := "abcdefghijklmnopqrstuvwxyz"
theorem letters_all : ∀ i : Nat, i < 26 → (!(Builtin.Str.occurrences letters ⟨#[97 + i]⟩ 0 letters.length 1).isEmpty) = true := by decide +kernel
theorem letter_in {c : Nat} (h : 97 ≤ c ∧ c ≤ 122) : (!(Builtin.Str.occurrences letters ⟨#[c]⟩ 0 letters.length 1).isEmpty) = true := by
  have := letters_all (c - 97) (by omega)
  rw [show 97 + (c - 97) = c by omega] at this
  exact this
theorem no_word {s : Str} (h : s ∉ words) : diFind [("not", 1), ("both", 2), ("either", 2), ("turned", 1), ("chain", 2), ("some", 1)] s = none := by
  unfold words at h
  simp only [List.mem_cons, List.not_mem_nil, or_false, not_or] at h
  unfold diFind
  simp only [List.find?_cons, List.find?_nil, Ne.symm h.1, Ne.symm h.2.1, Ne.symm h.2.2.1, Ne.symm h.2.2.2.1, Ne.symm h.2.2.2.2.1, Ne.symm h.2.2.2.2.2, decide_false, Option.map_none]
theorem name_ok {s : Str} (h : NameOk s) : m_is_notion_name [.str s] = .ok (.bool true) [.str s] := by
  have l0 := h.l0
  have l1 := h.l1
  refine WpF.eq ?_
  unfold m_is_notion_name
  refine wpf_run rfl ?_
  unfold den_is_notion_name
  walk_at "wp"
  refine ⟨by omega, bt_dt (by omega) ?_⟩
  walk_at "wp"
  rw [decide_eq_true (show (s.length : Int) ≤ 8 by omega)]
  walk_at "wp"
  rw [no_word h.nw]
  simp only [Option.isSome_none]
  walk_at "wp"
  unfold PD.signs
  refine wp_lcM (e := fun c => .str ⟨#[c]⟩) (xs := s.cps.toList) (fun c => .bool true) (fun c hc => ?_) ?_ ?_
  · walk_at "wp"
    rw [letter_in (h.low c hc)]
  · rw [lineE]
    have : s.cps.toList.length = s.length := by rw [Array.length_toList]; rfl
    omega
  · try walk_at "wp"
    rw [wpo_all (f := fun _ => true)]
    walk_at "wp"
    simp
theorem notion_ok {n : Str × Nat} (h : NameOk n.1 ∧ (n.2 = 1 ∨ n.2 = 2)) : m_is_notion [noE n] = .ok (.bool true) [noE n] := by
  refine WpF.eq ?_
  unfold m_is_notion
  refine wpf_run rfl ?_
  unfold den_is_notion
  unfold noE
  walk_at "wp"
  rw [name_ok h.1]
  walk_at "wp"
  rw [nat_e, within_ok (by omega) (by omega)]
  walk_at "wp"
theorem addK_nd : ∀ (N : Ns) (acc : List Key), (∀ n ∈ N, Sum.inr n.1 ∉ acc) → (N.map (·.1)).Nodup → (N.foldl (fun acc n => addK acc (Sum.inr n.1)) acc).length = acc.length + N.length
  | [], acc, _, _ => rfl
  | n :: N, acc, h, nd => by
    rw [List.map_cons, List.nodup_cons] at nd
    have e : addK acc (Sum.inr n.1) = acc ++ [Sum.inr n.1] := by
      unfold addK memK
      rw [if_neg]
      intro z
      rw [List.any_eq_true] at z
      obtain ⟨k, hk, q⟩ := z
      exact h n (by simp) (of_decide_eq_true q ▸ hk)
    rw [List.foldl_cons, e, addK_nd N _ (fun m hm z => ?_) nd.2]
    · simp; omega
    · rw [List.mem_append, List.mem_singleton] at z
      rcases z with z | z
      · exact h m (by simp [hm]) z
      · exact nd.1 (by rw [← Sum.inr.inj z]; exact List.mem_map_of_mem (f := (·.1)) hm)
theorem notions_ok {N : Ns} (h : NsOk N) : m_is_notions [nsE N] = .ok (.bool true) [nsE N] := by
  have l0 := h.l0
  have l1 := h.l1
  refine WpF.eq ?_
  unfold m_is_notions
  refine wpf_run rfl ?_
  unfold den_is_notions
  unfold nsE
  walk_at "wp"
  rw [List.length_map]
  refine bt_dt (by omega) ?_
  walk_at "wp"
  rw [decide_eq_true (show (N.length : Int) ≤ 3 by omega)]
  walk_at "wp"
  refine wp_lcM (e := noE) (fun n => .bool true) (fun n hn => ?_) (by rw [lineE]; omega) ?_
  · walk_at "wp"
    rw [notion_ok (h.ok n hn)]
    walk_at "wp"
  · try walk_at "wp"
    rw [wpo_all (f := fun _ => true), List.all_eq_true.mpr (by simp)]
    walk_at "wp"
    refine wp_lsc (e := noE) (xs := N) (fun n => Sum.inr n.1) ?_ (fun n hn => ?_) ?_ ?_
    · walk_at "wp"
    · unfold noE
      walk_at "wp"
    · have : scanBound = 4096 := rfl
      omega
    · walk_at "wp"
      rw [addK_nd N [] (by simp) h.nd]
      simp
end Mz

set_option Elab.async false
set_option linter.all false
set_option maxRecDepth 100000
set_option maxHeartbeats 1000000
set_option autoImplicit false
namespace Mz
open PySem L2 PySem.Spec PD PyProof.Rows PySem.W Mi
theorem ShT.shOk {N : Ns} {sh : List Tm} (h : ShT N sh) : ShOk N sh := ⟨h.ns.l1, fun n hn => (h.ns.ok n hn).1.l1, h.sl, fun t ht => by
  obtain ⟨p, hp⟩ := h.ty t ht
  exact ⟨hp.short fun n hn => (h.ns.ok n hn).1.l1, h.dp t ht⟩⟩
theorem shown_ok {N : Ns} {sh : List Tm} (h : ShT N sh) (l0 : 1 ≤ sh.length) (l1 : sh.length ≤ 4) (nd : sh.Nodup) : m_are_shown [nsE N, .tuple (sh.map Tm.e)] = .ok (.bool true) [nsE N, .tuple (sh.map Tm.e)] := by
  refine WpF.eq ?_
  unfold m_are_shown
  refine wpf_run rfl ?_
  unfold den_are_shown
  walk_at "wp"
  rw [List.length_map]
  refine bt_dt (by omega) ?_
  walk_at "wp"
  rw [decide_eq_true (show (sh.length : Int) ≤ 4 by omega)]
  walk_at "wp"
  refine wp_lcM (e := Tm.e) (fun n => .bool true) (fun t ht => ?_) (by rw [lineE]; omega) ?_
  · obtain ⟨p, hp⟩ := h.ty t ht
    walk_at "wp"
    rw [places_in_ok h.ns.nd hp (h.dp t ht)]
    walk_at "wp"
    rfl
  · try walk_at "wp"
    rw [wpo_all (f := fun _ => true), List.all_eq_true.mpr (by simp)]
    walk_at "wp"
    rw [by_texts_ok seq_t h.shOk.tx (by omega)]
    walk_at "wp"
    rw [List.length_map, List.length_map, byT_len (inj_of h.nok h.ty) nd]
    simp
theorem sum_perm {l m : List Nat} (p : l.Perm m) : l.sum = m.sum := by
  induction p with
  | nil => rfl
  | cons x _ ih => rw [List.sum_cons, List.sum_cons, ih]
  | swap x y l => rw [List.sum_cons, List.sum_cons, List.sum_cons, List.sum_cons]; omega
  | trans _ _ h1 h2 => exact h1.trans h2
theorem FdOk.cnt1 {F : Fd} (h : FdOk F) : cnt F.nts F.mn F.sh = (F.atoms true).length := by
  unfold Fd.atoms
  rw [cnt_atoms]
  unfold cnt
  apply sum_perm
  apply List.Perm.map
  show F.sh.Perm (List.filter (fun t => !true || decide (t ∈ F.sh)) (tmsOf F.nts F.sh))
  rw [List.perm_ext_iff_of_nodup h.snd (h.shT.nd.filter _)]
  intro t
  rw [List.mem_filter]
  simp only [Bool.not_true, Bool.false_or, decide_eq_true_eq]
  exact ⟨fun q => ⟨h.shT.sub t q, q⟩, fun q => q.2⟩
theorem tms_len {N : Ns} {sh : List Tm} (h : ShT N sh) : (tmsOf N sh).length ≤ 163 := Nat.le_trans byT_le h.shOk.len
theorem field_ok {F : Fd} (h : FdOk F) : m_is_field [F.e] = .ok (.bool true) [F.e] := by
  have ht := tms_len h.shT
  have s1 := h.s1
  have m0 := h.m0
  have m1 := h.m1
  have a0 := h.a0
  have a1 := h.a1
  refine WpF.eq ?_
  unfold m_is_field
  refine wpf_run rfl ?_
  unfold den_is_field
  unfold Fd.e
  walk_at "wp"
  rw [notions_ok h.ns]
  walk_at "wp"
  rw [shown_ok h.shT h.s0 h.s1 h.snd]
  walk_at "wp"
  rw [nat_e, within_ok (by omega) (by omega)]
  walk_at "wp"
  rw [← nat_e, many_atoms_ok h.ns (by omega) (fun t ht => ⟨h.ty t ht, h.dp t ht⟩) (by omega)]
  simp only [nat_e]
  walk_at "wp"
  rw [h.cnt1]
  refine bt_df (by omega) ?_
  walk_at "wp"
  rw [terms_by_ok h.shT.shOk]
  walk_at "wp"
  rw [← nat_e, many_atoms_ok h.ns (by omega) (fun t ht => h.shT.tms t ht) (by omega)]
  simp only [nat_e]
  walk_at "wp"
  have e : cnt F.nts F.mn (tmsOf F.nts F.sh) = (F.atoms false).length := by
    unfold Fd.atoms Fd.tms
    rw [cnt_atoms]
    congr 1
    exact (List.filter_eq_self.mpr (by simp)).symm
  rw [e, decide_eq_true (by omega)]
theorem need_field_ok {F : Fd} (h : FdOk F) : m_need_field [F.e] = .ok .none [F.e] := by
  refine WpF.eq ?_
  unfold m_need_field
  refine wpf_run rfl ?_
  unfold den_need_field
  walk_at "wp"
  rw [field_ok h]
  walk_at "wp"
theorem terms_in_ok {F : Fd} (h : ShT F.nts F.sh) : m_terms_in [F.e] = .ok (.tuple (F.tms.map Tm.e)) [F.e] := by
  refine WpF.eq ?_
  unfold m_terms_in
  refine wpf_run rfl ?_
  unfold den_terms_in
  unfold Fd.e
  walk_at "wp"
  rw [terms_by_ok h.shOk]
  walk_at "wp"
  rfl
theorem okD_tms {ts : List Tm} (h : ∀ t ∈ ts, t.dep ≤ 3) : okD (.tuple (ts.map Tm.e)) = true ∧ okD (.list (ts.map Tm.e)) = true := by
  have : ∀ t ∈ ts, okD t.e = true ∧ t.e.depth ≤ 63 := fun t ht => by
    have h1 := h t ht
    have h2 := t.depth
    exact ⟨t.ok (by omega), by omega⟩
  exact ⟨ok_tup this, ok_lst this⟩
theorem atoms_in_ok {F : Fd} (h : ShT F.nts F.sh) (hm : F.mn ≤ 3) (bare : Bool) (hl : (F.atoms bare).length ≤ 10000) : m_atoms_in [F.e, .bool bare] = .ok (.tuple ((F.atoms bare).map atE)) [F.e, .bool bare] := by
  have hl2 := tms_len h
  have sl := h.sl
  refine WpF.eq ?_
  unfold m_atoms_in
  refine wpf_run rfl ?_
  unfold den_atoms_in
  have e0 : F.e = .tuple [nsE F.nts, .tuple (F.sh.map Tm.e), nat F.mn] := rfl
  have tt := terms_in_ok h
  simp only [e0] at tt ⊢
  walk_at "wp"
  rw [tt]
  walk_at "wp"
  refine wp_lcF (e := Tm.e) (fun t => !bare || decide (t ∈ F.sh)) Tm.e (fun t ht => ?_) (by rw [lineE]; exact Nat.le_trans hl2 (by omega)) ?_
  · obtain ⟨⟨p, hp⟩, hd⟩ := h.tms t ht
    walk_at "wp"
    cases bare with
    | false =>
      walk_at "wp"
      try simp
    | true =>
      walk_at "wp"
      refine ⟨t.ok (by omega), (okD_tms h.dp).1, ?_⟩
      rw [any_tm]
      simp
  · try walk_at "wp"
    refine wp_lc2 (e := Tm.e) (e1 := nats) (xs := F.tms.filter fun t => !bare || decide (t ∈ F.sh)) (fun t => rws F.mn (wd F.nts t)) (fun _ _ => true) (fun t r => atE (t, r)) ?_ (fun t ht => ?_) ?_ ?_
    · walk_at "wp"
    · obtain ⟨⟨p, hp⟩, hd⟩ := h.tms t (List.mem_filter.mp ht).1
      have p12 := hp.p12 h.ns.p12
      walk_at "wp"
      rw [places_in_ok h.ns.nd hp hd]
      walk_at "wp"
      rw [unknown_rows_ok (by omega) (by omega), hp.wd h.ns.nd]
      walk_at "wp"
      intro y hy
      simp [atE]
    · rw [fall, lineE]
      have e : ((F.tms.filter fun t => !bare || decide (t ∈ F.sh)).flatMap fun t => (rws F.mn (wd F.nts t)).map fun r => atE (t, r)) = (F.atoms bare).map atE := by
        unfold Fd.atoms atomsOf
        rw [List.map_flatMap]
        simp only [List.map_map]; rfl
      rw [e, List.length_map]; omega
    · rw [fall]
      try walk_at "wp"
      unfold Fd.atoms atomsOf
      rw [List.map_flatMap]
      simp only [List.map_map]; rfl
end Mz

set_option Elab.async false
set_option linter.all false
set_option maxRecDepth 100000
set_option maxHeartbeats 1000000
set_option autoImplicit false
namespace Mz
open PySem L2 PySem.Spec PD PyProof.Rows PySem.W Mi
/-! ### the numbers of a field's atoms -/
def numsOf (A : List At) : List (At × Nat) := kfill (fun i => A.getD i default) id (List.range A.length)
abbrev dcA (δ : List (At × Nat)) : PyData := .dict ((.none, .none) :: encD atE nat δ)
theorem nums_get {A : List At} (nd : A.Nodup) {a : At} (h : a ∈ A) : klook (numsOf A) a = some (idx A a) := by
  unfold numsOf
  refine kfill_get (idx A) (fun i hi => ?_) ?_
  · rw [List.mem_range] at hi
    symm
    apply idx_nd nd
    rw [List.getD_eq_getElem?_getD, List.getElem?_eq_getElem hi]
    exact List.getElem?_eq_getElem hi
  · rw [List.mem_map]
    refine ⟨idx A a, List.mem_range.mpr (idx_lt h), ?_⟩
    rw [List.getD_eq_getElem?_getD, idx_get h]; rfl
theorem numbers_in_ok {F : Fd} (h : FdOk F) : m_numbers_in [F.e] = .ok (dcA (numsOf F.A)) [F.e] := by
  have a0 := h.a0
  refine WpF.eq ?_
  unfold m_numbers_in
  refine wpf_run rfl ?_
  unfold den_numbers_in
  walk_at "wp"
  refine wp_dc (e := fun (i : Nat) => .tuple [.int (i : Int), (F.A.map atE).getD i .none]) (xs := List.range F.A.length) (δ := List (At × Nat)) dcA (fun δ i => kput δ (F.A.getD i default) i) [] List.length ?_ rfl rfl ?_ ?_
  · walk_at "wp"
    rw [atoms_in_ok h.shT h.m1 false (by omega)]
    walk_at "wp"
    unfold enumD
    rw [List.length_map]
  · intro i hi acc hacc
    rw [List.length_range] at hacc
    rw [List.mem_range] at hi
    have e : (F.A.map atE).getD i .none = atE (F.A.getD i default) := by
      rw [List.getD_eq_getElem?_getD, List.getD_eq_getElem?_getD, List.getElem?_map, List.getElem?_eq_getElem hi]; rfl
    have hm : F.A.getD i default ∈ F.A := by
      rw [List.getD_eq_getElem?_getD, List.getElem?_eq_getElem hi]
      exact List.getElem_mem hi
    rw [e]
    walk_at "wp"
    exact ⟨putN_put nestAt (h.atOk hm) (by rw [lineE]; have : F.A.length ≤ 40 := a0; omega), kput_len⟩
  · walk_at "wp"
    rfl
theorem numbers_of_ok {F : Fd} (h : FdOk F) {l : List At} (hl : ∀ a ∈ l, a ∈ F.A) (hn : l.length ≤ 1000000) : m_numbers_of [F.e, .tuple (l.map atE)] = .ok (nats (F.spots l)) [F.e, .tuple (l.map atE)] := by
  refine WpF.eq ?_
  unfold m_numbers_of
  refine wpf_run rfl ?_
  unfold den_numbers_of
  walk_at "wp"
  rw [numbers_in_ok h]
  walk_at "wp"
  refine wp_lcM (e := atE) (fun a => nat (idx F.A a)) (fun a ha => ?_) (by rw [lineE]; omega) ?_
  · walk_at "wp"
    rw [wpo_nget nestAt (h.atOk (hl a ha)), nums_get h.nd (hl a ha)]
    walk_at "wp"
  · try walk_at "wp"
    unfold nats Fd.spots
    rw [List.map_map]; rfl
theorem any_tm' {ts : List Tm} {t : Tm} (h : t ∈ ts) : ((ts.map Tm.e).any fun y => PyData.eqv y t.e) = true := by rw [any_tm, decide_eq_true h]
theorem is_atom_ok {F : Fd} (h : FdOk F) {a : At} (ha : a ∈ F.A) : m_is_atom_by [F.e, .tuple (F.tms.map Tm.e), atE a] = .ok (.bool true) [F.e, .tuple (F.tms.map Tm.e), atE a] := by
  have hm := h.mem.mp ha
  obtain ⟨⟨p, hp⟩, hd⟩ := h.shT.tms _ hm.1
  obtain ⟨h1, h2⟩ := h.atm ha
  have m0 := h.m0
  have m1 := h.m1
  have p12 := hp.p12 h.ns.p12
  have hwd := hp.wd h.ns.nd
  refine WpF.eq ?_
  unfold m_is_atom_by
  refine wpf_run rfl ?_
  unfold den_is_atom_by
  have e0 : F.e = .tuple [nsE F.nts, .tuple (F.sh.map Tm.e), nat F.mn] := rfl
  have e1 : atE a = .tuple [a.1.e, .tuple (a.2.map nat)] := rfl
  simp only [e0, e1]
  walk_at "wp"
  have rest : ∀ (b : Bool), b = true → WpB (.bool b) (fun b => b = true) := fun b hb => hb
  have hs : (isT .str a.1.e || isT .tuple a.1.e) = true := by cases a.1 <;> rfl
  rw [hs]
  walk_at "wp"
  refine ⟨a.1.ok (by omega), (okD_tms fun t ht => (h.shT.tms t ht).2).1, ?_⟩
  rw [any_tm' hm.1]
  walk_at "wp"
  rw [places_in_ok h.ns.nd hp hd]
  simp only [nat_e]
  walk_at "wp"
  rw [List.length_map]
  refine bt_dt (by omega) ?_
  walk_at "wp"
  refine wp_lcM (e := nat) (fun n => .bool true) (fun o ho => ?_) (by rw [lineE]; omega) ?_
  · have := h2 o ho
    simp only [nat_e]
    walk_at "wp"
    rw [within_ok (by omega) (by omega)]
    walk_at "wp"
  · try walk_at "wp"
    rw [wpo_all (f := fun _ => true), List.all_eq_true.mpr (by simp)]
    try walk_at "wp"
theorem cut_d {xs : List PyData} : PD.cutD xs (some 1) none = xs.drop 1 := by
  cases xs with
  | nil => rfl
  | cons x xs => rw [cut_1]; rfl
theorem zip_nats (r s : List Nat) : zipD (r.map nat) (s.map nat) = (r.zip s).map fun p => .tuple [nat p.1, nat p.2] := by
  unfold zipD
  rw [List.zipWith_map, List.zip, List.map_zipWith]
theorem rise_all {l : List Nat} (h : l.Pairwise (· < ·)) : (l.zip (l.drop 1)).all (fun p => decide ((p.1 : Int) < (p.2 : Int))) = true := by
  induction l with
  | nil => rfl
  | cons a l ih =>
    rw [List.pairwise_cons] at h
    cases l with
    | nil => rfl
    | cons b l =>
      have ih := ih h.2
      rw [List.drop_succ_cons, List.drop_zero] at ih ⊢
      rw [List.zip_cons_cons, List.all_cons, Bool.and_eq_true]
      refine ⟨decide_eq_true (by have := h.1 b (by simp); show (a : Int) < (b : Int); omega), ?_⟩
      cases l with
      | nil => rfl
      | cons c l => exact ih
theorem is_row_ok {F : Fd} (h : FdOk F) {l : List At} (hl : l.Sublist F.A) : m_is_row_in [F.e, .tuple (l.map atE), .bool false] = .ok (.bool true) [F.e, .tuple (l.map atE), .bool false] := by
  have a0 : F.A.length ≤ 40 := h.a0
  have ll := hl.length_le
  have hm : ∀ a ∈ l, a ∈ F.A := fun a ha => hl.subset ha
  refine WpF.eq ?_
  unfold m_is_row_in
  refine wpf_run rfl ?_
  unfold den_is_row_in
  walk_at "wp"
  rw [terms_in_ok h.shT]
  walk_at "wp"
  refine wp_lcM (e := atE) (fun n => .bool true) (fun a ha => ?_) (by rw [lineE]; omega) ?_
  · walk_at "wp"
    rw [is_atom_ok h (hm a ha)]
    walk_at "wp"
  · try walk_at "wp"
    rw [wpo_all (f := fun _ => true), List.all_eq_true.mpr (by simp)]
    try walk_at "wp"
    rw [numbers_of_ok h hm (by omega)]
    unfold nats
    walk_at "wp"
    rw [cut_d, ← List.map_drop, zip_nats]
    refine wp_lcM (e := fun p : Nat × Nat => .tuple [nat p.1, nat p.2]) (fun p => .bool (decide ((p.1 : Int) < (p.2 : Int)))) (fun p hp => ?_) ?_ ?_
    · simp only [nat_e]
      walk_at "wp"
    · rw [lineE, List.length_zip]
      have : (F.spots l).length = l.length := by simp [Fd.spots]
      omega
    · try walk_at "wp"
      rw [wpo_all, rise_all (l := F.spots l) (idx_rise h.nd hl)]
      walk_at "wp"
theorem need_row_ok {F : Fd} (h : FdOk F) {l : List At} (hl : l.Sublist F.A) : m_need_row [F.e, .tuple (l.map atE)] = .ok .none [F.e, .tuple (l.map atE)] := by
  refine WpF.eq ?_
  unfold m_need_row
  refine wpf_run rfl ?_
  unfold den_need_row
  walk_at "wp"
  rw [is_row_ok h hl]
  walk_at "wp"
end Mz

set_option Elab.async false
set_option linter.all false
set_option maxRecDepth 100000
set_option maxHeartbeats 1000000
set_option autoImplicit false
namespace Mz
open PySem L2 PySem.Spec PD PyProof.Rows PySem.W Mi
theorem nat_lt {a b : Nat} (h : a < b) : dataLt (nat a) (nat b) = true := by
  show dataLt (.int (a : Int)) (.int (b : Int)) = true
  rw [dataLt_int]; exact decide_eq_true (by omega)
theorem sortOk_nat {ks : List Nat} : sortOk (ks.map nat) = true :=
  sortOk_of (fun k _ => ⟨rfl, by simp [nat, PyData.depth], by simp [nat]⟩) (fun _ _ _ _ => rfl) (.inr (.inr fun _ _ => rfl))
/-- by their places sorted -/
theorem sort_places {A l : List At} (nd : A.Nodup) (hl : ∀ a ∈ l, a ∈ A) : ksort nat (keys (kfill (idx A) id l)) = (rowBy A l).map (idx A) := by
  refine ksort_eq kfill_nodup ?_ fun x => ?_
  · exact (idx_rise nd rowBy_sub).imp fun h => nat_lt h
  · rw [kfill_mem, List.mem_map, List.mem_map]
    constructor
    · rintro ⟨a, ha, rfl⟩
      exact ⟨a, (rowBy_mem.mp ha).2, rfl⟩
    · rintro ⟨a, ha, rfl⟩
      exact ⟨a, rowBy_mem.mpr ⟨hl a ha, ha⟩, rfl⟩
theorem place_look {A l : List At} (hl : ∀ a ∈ l, a ∈ A) {a : At} (ha : a ∈ l) : klook (kfill (idx A) id l) (idx A a) = some a := by
  rw [kfill_get (fun i => A.getD i default) (fun x hx => ?_) (List.mem_map_of_mem ha)]
  · rw [List.getD_eq_getElem?_getD, idx_get (hl a ha)]; rfl
  · rw [List.getD_eq_getElem?_getD, idx_get (hl x hx)]; rfl
theorem row_by_ok {F : Fd} (h : FdOk F) {d : PyData} {l : List At} (hd : seqOf d = some (l.map atE)) (hl : ∀ a ∈ l, a ∈ F.A) (hn : l.length ≤ 1000000) : m_row_by [F.e, d] = .ok (.tuple ((rowBy F.A l).map atE)) [F.e, d] := by
  refine WpF.eq ?_
  unfold m_row_by
  refine wpf_run rfl ?_
  unfold den_row_by
  walk_at "wp"
  rw [numbers_in_ok h]
  walk_at "wp"
  refine wp_dc (e := atE) (xs := l) (δ := List (Nat × At)) (fun δ => .dict (encD nat atE δ)) (fun δ a => kput δ (idx F.A a) a) [] List.length ?_ rfl rfl ?_ ?_
  · walk_at "wp"
    rw [hd]
    walk_at "wp"
  · intro a ha acc hacc
    walk_at "wp"
    rw [wpo_nget nestAt (h.atOk (hl a ha)), nums_get h.nd (hl a ha)]
    walk_at "wp"
    exact ⟨putF_put flatNat (by rw [lineE]; omega), kput_len⟩
  · walk_at "wp"
    show WpO (gSorted (.dict (encD nat atE (kfill (idx F.A) id l)))) _
    rw [wpo_sorted (keysD_flat flatNat) sortOk_nat]
    rw [sort_places h.nd hl]
    walk_at "wp"
    rw [List.map_map]
    refine wp_lcM (e := nat ∘ idx F.A) atE (fun a ha => ?_) ?_ ?_
    · simp only [Function.comp]
      walk_at "wp"
      show WpO (gDGet (.dict (encD nat atE (kfill (idx F.A) id l))) (nat (idx F.A a))) _
      rw [wpo_dget flatNat, place_look hl (rowBy_mem.mp ha).2]
      walk_at "wp"
    · have : (rowBy (F.atoms false) l).length ≤ F.A.length := rowBy_sub.length_le
      have a0 : F.A.length ≤ 40 := h.a0
      rw [lineE]; omega
    · try walk_at "wp"
      try rfl
theorem rn_len {m : Nat} : ∀ k, (rn m k).length ≤ m ^ k
  | 0 => Nat.le_refl _
  | k + 1 => by
    have := flat_len (F := fun r : List Nat => ((List.range m).filter fun o => !decide (o ∈ r)).map fun o => r ++ [o]) (n := m) (xs := rn m k) fun r _ => by
      rw [List.length_map]
      exact Nat.le_trans (List.length_filter_le _ _) (by simp)
    have h2 := rn_len (m := m) k
    rw [rn, Nat.pow_succ]
    exact Nat.le_trans this (Nat.mul_le_mul_right _ h2)
theorem any_nat {r : List Nat} {o : Nat} : ((r.map nat).any fun y => PyData.eqv y (nat o)) = decide (o ∈ r) := by
  rw [List.any_map]
  have e : ∀ x : Nat, PyData.eqv (nat x) (nat o) = decide (x = o) := fun x => by
    show PyData.eqv (.int x) (.int o) = _
    rw [eqv_int]; exact decide_eq_decide.mpr (by omega)
  by_cases h : o ∈ r
  · rw [decide_eq_true h, List.any_eq_true]
    exact ⟨o, h, by simp [Function.comp, e]⟩
  · rw [decide_eq_false h, List.any_eq_false]
    intro x hx
    simp only [Function.comp, e, decide_eq_true_eq]
    exact fun z => h (z ▸ hx)
theorem all_renamings_ok {m : Nat} (hm : m ≤ 3) : m_all_renamings [nat m] = .ok (.tuple ((rn m m).map nats)) [nat m] := by
  refine WpF.eq ?_
  unfold m_all_renamings
  refine wpf_run rfl ?_
  unfold den_all_renamings
  simp only [nat_e]
  walk_at "wp"
  rw [rng_eq]
  refine ⟨by omega, ?_⟩
  refine wp_for (e := nat) (xs := List.range m) (fun pre ρ => ∃ o, ρ = [some (.int m), some (.list ((rn m pre.length).map nats)), o, none, none]) ⟨_, rfl⟩ (fun pre x post ρ hx hI => ?_) fun ρ hI => ?_
  · obtain ⟨o, rfl⟩ := hI
    have hk : pre.length ≤ 3 := by
      have := congrArg List.length hx
      simp only [List.length_range, List.length_append, List.length_cons] at this
      omega
    have hb : (rn m pre.length).length ≤ 3 ^ 3 := by
      refine Nat.le_trans (rn_len _) ?_
      exact Nat.le_trans (Nat.pow_le_pow_left hm _) (Nat.pow_le_pow_right (by omega) hk)
    have key : ∀ r ∈ rn m pre.length, r.length ≤ 3 := fun r hr => by rw [(rn_mem.mp hr).1]; exact hk
    walk_at "wp"
    refine wp_lc2 (e := nats) (e1 := nat) (xs := rn m pre.length) (fun _ => List.range m) (fun r o => !decide (o ∈ r)) (fun r o => nats (r ++ [o])) ?_ (fun r hr => ?_) ?_ ?_
    · walk_at "wp"
    · walk_at "wp"
      rw [rng_eq]
      refine ⟨by omega, rfl, fun y hy => ?_⟩
      have e : nats r = .tuple (r.map nat) := rfl
      rw [e]
      walk_at "wp"
      have o1 := nats_ok (r := r)
      rw [e] at o1
      refine ⟨rfl, o1, by rw [any_nat], fun _ => ?_, fun _ => trivial⟩
      have := key r hr
      rw [List.length_map]
      refine ⟨by omega, ?_⟩
      unfold nats
      simp
    · rw [lineE]
      have := flat_len (F := fun r : List Nat => ((List.range m).filter fun o => !decide (o ∈ r)).map fun o => nats (r ++ [o])) (n := 3) (xs := rn m pre.length) fun r _ => by
        rw [List.length_map]
        exact Nat.le_trans (List.length_filter_le _ _) (by simpa using hm)
      omega
    · try walk_at "wp"
      refine ⟨some (nat x), ?_⟩
      rw [List.length_append, List.length_cons, List.length_nil]
      simp only [rn, List.map_flatMap, List.map_map]
      rfl
  · obtain ⟨o, rfl⟩ := hI
    rw [List.length_range]
    walk_at "wp"
end Mz

set_option Elab.async false
set_option linter.all false
set_option maxRecDepth 100000
set_option maxHeartbeats 1000000
set_option autoImplicit false
namespace Mz
open PySem L2 PySem.Spec PD PyProof.Rows PySem.W Mi
theorem atI_nat {α : Type} {xs : List α} {o : Nat} {d : α} (h : xs[o]? = some d) : atI xs (o : Int) = some d := by
  have hl := (List.getElem?_eq_some_iff.mp h).1
  unfold L2.atI ixN
  rw [if_pos (by omega), if_pos (by omega)]
  show xs[(o : Int).toNat]? = _
  rw [Int.toNat_natCast]; exact h
theorem at_nats {p : List Nat} {o : Nat} (h : o < p.length) : atI (p.map nat) (o : Int) = some (nat (ap p o)) := by
  apply atI_nat
  rw [List.getElem?_map, List.getElem?_eq_getElem h, ap_get h]; rfl
theorem atom_by_ok {a : At} {p : List Nat} (h : ∀ o ∈ a.2, o < p.length) (hn : a.2.length ≤ 1000) : m_atom_by [atE a, nats p] = .ok (atE (ren p a)) [atE a, nats p] := by
  refine WpF.eq ?_
  unfold m_atom_by
  refine wpf_run rfl ?_
  unfold den_atom_by
  have e1 : ∀ a : At, atE a = .tuple [a.1.e, .tuple (a.2.map nat)] := fun _ => rfl
  simp only [e1, nats]
  walk_at "wp"
  refine wp_lcM (e := nat) (fun o => nat (ap p o)) (fun o ho => ?_) (by rw [lineE]; omega) ?_
  · simp only [nat_e]
    walk_at "wp"
    rw [at_nats (h o ho)]
    walk_at "wp"
    rfl
  · try walk_at "wp"
    unfold ren atE nats
    rw [List.map_map]; rfl
theorem renamed_by_ok {F : Fd} (h : FdOk F) {l : List At} (hl : ∀ a ∈ l, a ∈ F.A) (hn : l.length ≤ 1000) {p : List Nat} (hp : Ren F.mn p) : m_renamed_by [F.e, .tuple (l.map atE), nats p] = .ok (.tuple ((F.rr p l).map atE)) [F.e, .tuple (l.map atE), nats p] := by
  refine WpF.eq ?_
  unfold m_renamed_by
  refine wpf_run rfl ?_
  unfold den_renamed_by
  walk_at "wp"
  refine wp_lcM (e := atE) (fun a => atE (ren p a)) (fun a ha => ?_) (by rw [lineE]; omega) ?_
  · obtain ⟨h1, h2⟩ := h.atm (hl a ha)
    obtain ⟨⟨q, hq⟩, _⟩ := h.shT.tms _ (h.mem.mp (hl a ha)).1
    have p12 := hq.p12 h.ns.p12
    have hw := hq.wd h.ns.nd
    walk_at "wp"
    rw [atom_by_ok (by rw [hp.ex.1]; exact h2) (by omega)]
    walk_at "wp"
  · try walk_at "wp"
    have e : (l.map fun a => atE (ren p a)) = (l.map (ren p)).map atE := by rw [List.map_map]; rfl
    rw [e, row_by_ok h seq_l (fun b hb => ?_) (by rw [List.length_map]; omega)]
    · walk_at "wp"
      rfl
    · rw [List.mem_map] at hb
      obtain ⟨a, ha, rfl⟩ := hb
      exact h.ren hp (hl a ha)
abbrev rowE (l : List At) : PyData := .tuple (l.map atE)
abbrev dcK (δ : List (List Nat × List At)) : PyData := .dict ((.none, .none) :: encD nats rowE δ)
theorem sortOk_kd {F : Fd} (h : FdOk F) {l : List At} (hl : l.Sublist F.A) : sortOk ((keys (F.kd l)).map nats) = true := by
  have hm : ∀ a ∈ l, a ∈ F.A := fun a ha => hl.subset ha
  have hlen : ∀ k ∈ keys (F.kd l), k.length = l.length := fun k hk => by
    rw [kfill_mem, List.mem_map] at hk
    obtain ⟨p, hp, rfl⟩ := hk
    unfold Fd.spots
    rw [List.length_map, h.rr_len hp hm (h.nd.sublist hl)]
  refine sortOk_of (fun k _ => ⟨nats_plain, by rw [nats_depth]; omega, by simp [nats]⟩) (fun _ _ _ _ => nats_alike) ?_
  cases l with
  | nil =>
    left
    have nd : (keys (F.kd [])).Nodup := kfill_nodup
    have : ∀ k ∈ keys (F.kd []), k ∈ [([] : List Nat)] := fun k hk => by
      have := hlen k hk
      simp only [List.length_nil] at this
      rw [List.length_eq_zero_iff.mp this]; simp
    exact nd_len nd this
  | cons a r =>
    right; left
    intro k hk
    have hk := hlen k hk
    cases k with
    | nil => cases hk
    | cons _ _ => rfl
theorem rn_small {m : Nat} (hm : m ≤ 3) : (rn m m).length ≤ 27 := by
  refine Nat.le_trans (rn_len _) ?_
  exact Nat.le_trans (Nat.pow_le_pow_left hm _) (Nat.pow_le_pow_right (n := 3) (by omega) hm)
theorem kinds_by_ok {F : Fd} (h : FdOk F) {l : List At} (hl : l.Sublist F.A) : m_kinds_by [F.e, rowE l] = .ok (.tuple ((F.kinds l).map rowE)) [F.e, rowE l] := by
  have hm : ∀ a ∈ l, a ∈ F.A := fun a ha => hl.subset ha
  have a0 : F.A.length ≤ 40 := h.a0
  have ll := hl.length_le
  have rl := rn_small h.m1
  refine WpF.eq ?_
  unfold m_kinds_by
  refine wpf_run rfl ?_
  unfold den_kinds_by
  walk_at "wp"
  rw [numbers_in_ok h]
  have e0 : ∀ i, WpO (gIx F.e (.int 2)) i = i (nat F.mn) := fun i => by
    unfold Fd.e
    walk_at "wp"
  walk_at "wp"
  rw [e0]
  walk_at "wp"
  rw [all_renamings_ok h.m1]
  walk_at "wp"
  refine wp_for (e := nats) (xs := rn F.mn F.mn) (fun pre ρ => ∃ o1 o2, ρ = [some F.e, some (rowE l), some (dcA (numsOf F.A)), some (dcK (pre.foldl (fun δ p => kput δ (F.spots (F.rr p l)) (F.rr p l)) [])), o1, o2, none, none]) ⟨_, _, rfl⟩ (fun pre p post ρ hx hI => ?_) fun ρ hI => ?_
  · obtain ⟨o1, o2, rfl⟩ := hI
    have hp : Ren F.mn p := by
      show p ∈ rn F.mn F.mn
      rw [hx]; simp
    have hr : ∀ a ∈ F.rr p l, a ∈ F.A := fun a ha => rr_sub.subset ha
    have hrl : (F.rr p l).length ≤ F.A.length := rr_sub.length_le
    walk_at "wp"
    rw [renamed_by_ok h hm (by omega) hp]
    walk_at "wp"
    refine wp_lcM (e := atE) (fun a => nat (idx F.A a)) (fun a ha => ?_) (by rw [lineE]; omega) ?_
    · walk_at "wp"
      rw [wpo_nget nestAt (h.atOk (hr a ha)), nums_get h.nd (hr a ha)]
      walk_at "wp"
    · try walk_at "wp"
      have e : PyData.tuple ((F.rr p l).map fun a => nat (idx F.A a)) = nats (F.spots (F.rr p l)) := by
        unfold nats Fd.spots
        rw [List.map_map]; rfl
      have hlen : (pre.foldl (fun δ p => kput δ (F.spots (F.rr p l)) (F.rr p l)) []).length ≤ 27 := by
        have : (pre.foldl (fun δ p => kput δ (F.spots (F.rr p l)) (F.rr p l)) []).length ≤ pre.length := kfill_len (kf := fun p => F.spots (F.rr p l)) (vf := fun p => F.rr p l) (xs := pre)
        have h2 := congrArg List.length hx
        rw [List.length_append] at h2
        omega
      rw [e, nest_put nestNats, encD_len]
      refine ⟨nestNats.ok _ trivial, by omega, some (nats p), some (rowE (F.rr p l)), ?_⟩
      rw [List.foldl_append]; rfl
  · obtain ⟨o1, o2, rfl⟩ := hI
    walk_at "wp"
    show WpO (gSorted (dcK (F.kd l))) _
    rw [wpo_sorted keysD_nest (sortOk_kd h hl)]
    walk_at "wp"
    refine wp_lcM (e := nats) (fun k => rowE ((klook (F.kd l) k).getD [])) (fun k hk => ?_) ?_ ?_
    · walk_at "wp"
      show WpO (gNGet (dcK (F.kd l)) (nats k)) _
      rw [wpo_nget nestNats trivial]
      have hk := ksort_mem.mp hk
      cases e : klook (F.kd l) k with
      | none => exact absurd hk (klook_none.mp e)
      | some r =>
        walk_at "wp"
        rfl
    · have : (F.kd l).length ≤ (rn F.mn F.mn).length := kfill_len (kf := fun p => F.spots (F.rr p l)) (vf := fun p => F.rr p l) (xs := rn F.mn F.mn)
      rw [ksort_len, lineE]
      unfold keys
      rw [List.length_map]
      omega
    · try walk_at "wp"
      unfold Fd.kinds
      rw [List.map_map]; rfl
theorem kinds_of_ok {F : Fd} (h : FdOk F) {l : List At} (hl : l.Sublist F.A) : m_kinds_of [F.e, rowE l] = .ok (.tuple ((F.kinds l).map rowE)) [F.e, rowE l] := by
  refine WpF.eq ?_
  unfold m_kinds_of
  refine wpf_run rfl ?_
  unfold den_kinds_of
  walk_at "wp"
  rw [need_field_ok h]
  walk_at "wp"
  rw [need_row_ok h hl]
  walk_at "wp"
  rw [kinds_by_ok h hl]
  walk_at "wp"
theorem least_by_ok {F : Fd} (h : FdOk F) {l : List At} (hl : l.Sublist F.A) : m_least_by [F.e, rowE l] = .ok (rowE (F.kinds l).head!) [F.e, rowE l] := by
  refine WpF.eq ?_
  unfold m_least_by
  refine wpf_run rfl ?_
  unfold den_least_by
  walk_at "wp"
  rw [kinds_by_ok h hl]
  have ne := kinds_ne (F := F) l
  cases e : F.kinds l with
  | nil => exact absurd e ne
  | cons r rs =>
    walk_at "wp"
    rfl
theorem least_row_ok {F : Fd} (h : FdOk F) {l : List At} (hl : l.Sublist F.A) : m_least_row [F.e, rowE l] = .ok (rowE (F.kinds l).head!) [F.e, rowE l] := by
  refine WpF.eq ?_
  unfold m_least_row
  refine wpf_run rfl ?_
  unfold den_least_row
  walk_at "wp"
  rw [need_field_ok h]
  walk_at "wp"
  rw [need_row_ok h hl]
  walk_at "wp"
  rw [least_by_ok h hl]
  walk_at "wp"
end Mz

set_option Elab.async false
set_option linter.all false
set_option maxRecDepth 100000
set_option maxHeartbeats 1000000
set_option autoImplicit false
namespace Mz
open PySem L2 PySem.Spec PD PyProof.Rows PySem.W Mi
/-! ### the law's own: terms -/
theorem l_text_ok : ∀ (t : Tm) (n : Nat), t.dep < n → t.dep ≤ 3 → t.short → m__law_text n [t.e] = .ok (.str t.txt) [t.e]
  | .nm s, n + 1, _, _, _ => by
    refine WpF.eq ?_
    rw [m__law_text_s]
    refine wpf_run rfl ?_
    unfold den__law_text
    simp only [Tm.e]
    walk_at "wp"
    rfl
  | .un w t, n + 1, h, h3, hs => by
    simp only [Tm.dep] at h h3
    have ih := l_text_ok t n (by omega) (by omega) hs.2
    have b := Tm.txt_len t hs.2
    have p : 2 ^ t.dep ≤ 2 ^ 3 := Nat.pow_le_pow_right (by omega) (by omega)
    have q := hs.1
    refine WpF.eq ?_
    rw [m__law_text_s]
    refine wpf_run rfl ?_
    unfold den__law_text
    simp only [Tm.e]
    walk_at "wp"
    rw [ih]
    walk_at "wp"
    refine ⟨?_, rfl⟩
    simp only [sp1, List.sum_cons, List.sum_nil]
    omega
  | .bi w t u, n + 1, h, h3, hs => by
    simp only [Tm.dep] at h h3
    have ih := l_text_ok t n (by omega) (by omega) hs.2.1
    have ih2 := l_text_ok u n (by omega) (by omega) hs.2.2
    have b := Tm.txt_len t hs.2.1
    have b2 := Tm.txt_len u hs.2.2
    have p : 2 ^ t.dep ≤ 2 ^ 3 := Nat.pow_le_pow_right (by omega) (by omega)
    have p2 : 2 ^ u.dep ≤ 2 ^ 3 := Nat.pow_le_pow_right (by omega) (by omega)
    have q := hs.1
    refine WpF.eq ?_
    rw [m__law_text_s]
    refine wpf_run rfl ?_
    unfold den__law_text
    simp only [Tm.e]
    walk_at "wp"
    rw [ih]
    walk_at "wp"
    rw [ih2]
    walk_at "wp"
    refine ⟨?_, rfl⟩
    simp only [sp1, List.sum_cons, List.sum_nil]
    omega
theorem l_parts_ok : ∀ (t : Tm) (n : Nat), t.dep < n → t.dep ≤ 3 → m__law_parts n [t.e] = .ok (.list (t.parts.map Tm.e)) [t.e]
  | .nm s, n + 1, _, _ => by
    refine WpF.eq ?_
    rw [m__law_parts_s]
    refine wpf_run rfl ?_
    unfold den__law_parts
    simp only [Tm.e]
    walk_at "wp"
    rfl
  | .un w t, n + 1, h, h3 => by
    simp only [Tm.dep] at h h3
    have ih := l_parts_ok t n (by omega) (by omega)
    have l := parts_len3 (t := t) (by omega)
    refine WpF.eq ?_
    rw [m__law_parts_s]
    refine wpf_run rfl ?_
    unfold den__law_parts
    simp only [Tm.e]
    walk_at "wp"
    rw [ih]
    walk_at "wp"
    refine ⟨by simp only [List.length_map]; omega, rfl⟩
  | .bi w t u, n + 1, h, h3 => by
    simp only [Tm.dep] at h h3
    have ih := l_parts_ok t n (by omega) (by omega)
    have ih2 := l_parts_ok u n (by omega) (by omega)
    have l := parts_len3 (t := t) (by omega)
    have l2 := parts_len3 (t := u) (by omega)
    refine WpF.eq ?_
    rw [m__law_parts_s]
    refine wpf_run rfl ?_
    unfold den__law_parts
    simp only [Tm.e]
    walk_at "wp"
    rw [ih]
    walk_at "wp"
    refine ⟨by simp only [List.length_map]; omega, ?_⟩
    rw [ih2]
    walk_at "wp"
    refine ⟨by simp only [List.length_append, List.length_map]; omega, by simp [Tm.parts, Tm.e]⟩
theorem l_width_ok {N : Ns} (nd : (N.map (·.1)).Nodup) : ∀ {t : Tm} {p : Nat} (h : Ty N t p) (n : Nat), t.dep < n → t.dep ≤ 60 → m__law_width n [nsE N, t.e] = .ok (nat p) [nsE N, t.e]
  | _, _, .nm (s := s) (p := p) h, n + 1, _, _ => by
    refine WpF.eq ?_
    rw [m__law_width_s]
    refine wpf_run rfl ?_
    unfold den__law_width
    simp only [Tm.e]
    walk_at "wp"
    rw [gDict_ns nd]
    walk_at "wp"
    rw [wpo_dget flatStr, look_nd nd h]
    walk_at "wp"
    rfl
  | _, _, .not (t := t) (p := p) h, n + 1, hn, h6 => by
    simp only [Tm.dep] at hn h6
    have ih := l_width_ok nd h n (by omega) (by omega)
    refine WpF.eq ?_
    rw [m__law_width_s]
    refine wpf_run rfl ?_
    unfold den__law_width
    simp only [Tm.e]
    walk_at "wp"
    rw [ih]
    walk_at "wp"
  | _, _, .both (t := t) (u := u) (p := p) h g, n + 1, hn, h6 => by
    simp only [Tm.dep] at hn h6
    have ih := l_width_ok nd h n (by omega) (by omega)
    refine WpF.eq ?_
    rw [m__law_width_s]
    refine wpf_run rfl ?_
    unfold den__law_width
    simp only [Tm.e]
    walk_at "wp"
    rw [ih]
    walk_at "wp"
  | _, _, .either (t := t) (u := u) (p := p) h g, n + 1, hn, h6 => by
    simp only [Tm.dep] at hn h6
    have ih := l_width_ok nd h n (by omega) (by omega)
    refine WpF.eq ?_
    rw [m__law_width_s]
    refine wpf_run rfl ?_
    unfold den__law_width
    simp only [Tm.e]
    walk_at "wp"
    rw [ih]
    walk_at "wp"
  | _, _, .chain (t := t) (u := u) h g, n + 1, hn, h6 => by
    refine WpF.eq ?_
    rw [m__law_width_s]
    refine wpf_run rfl ?_
    unfold den__law_width
    simp only [Tm.e]
    walk_at "wp"
    rfl
  | _, _, .turned (t := t) h, n + 1, hn, h6 => by
    refine WpF.eq ?_
    rw [m__law_width_s]
    refine wpf_run rfl ?_
    unfold den__law_width
    simp only [Tm.e]
    walk_at "wp"
    rfl
  | _, _, .some (t := t) h, n + 1, hn, h6 => by
    refine WpF.eq ?_
    rw [m__law_width_s]
    refine wpf_run rfl ?_
    unfold den__law_width
    simp only [Tm.e]
    walk_at "wp"
    rfl
theorem fold_len {κ τ σ : Type} [DecidableEq κ] {kf : σ → κ} {vf : σ → τ} : ∀ (xs : List σ) (δ : List (κ × τ)), (xs.foldl (fun δ x => kput δ (kf x) (vf x)) δ).length ≤ δ.length + xs.length
  | [], δ => by simp
  | x :: xs, δ => by
    have := fold_len (kf := kf) (vf := vf) xs (kput δ (kf x) (vf x))
    have := kput_len (δ := δ) (k := kf x) (t := vf x)
    rw [List.foldl_cons, List.length_cons]; omega
theorem l_terms_ok {N : Ns} {sh : List Tm} (h : ShOk N sh) : m__law_terms [nsE N, .tuple (sh.map Tm.e)] = .ok (.list ((tmsOf N sh).map Tm.e)) [nsE N, .tuple (sh.map Tm.e)] := by
  have l1 := h.flat
  have l2 := h.nl
  have l3 := h.sl
  have tx : ∀ t ∈ N.map (fun n => Tm.nm n.1) ++ sh, t.short ∧ t.dep ≤ 3 := fun t ht => by
    rw [List.mem_append, List.mem_map] at ht
    rcases ht with ⟨n, hn, rfl⟩ | ht
    · exact ⟨h.n8 n hn, by simp [Tm.dep]⟩
    · exact h.tx t ht
  have ll : ∀ pre t post, N.map (fun n => Tm.nm n.1) ++ sh = pre ++ t :: post → (pre.flatMap Tm.parts).length ≤ 300 := fun pre t post e => by
    have h1 := flat_len (F := Tm.parts) (n := 16) (xs := pre) fun t ht => Nat.le_of_lt (parts_len3 (tx t (by rw [e]; simp [ht])).2)
    have h2 := congrArg List.length e
    simp only [List.length_append, List.length_map, List.length_cons] at h2
    omega
  refine WpF.eq ?_
  unfold m__law_terms
  refine wpf_run rfl ?_
  unfold den__law_terms
  unfold nsE
  walk_at "wp"
  refine wp_lcM (e := noE) (fun n => .str n.1) (fun n hn => ?_) (by rw [lineE]; omega) ?_
  · unfold noE
    walk_at "wp"
  · walk_at "wp"
    refine ⟨by simp only [List.length_map]; omega, ?_⟩
    have e : ((N.map fun n => PyData.str n.1) ++ sh.map Tm.e) = (N.map (fun n => Tm.nm n.1) ++ sh).map Tm.e := by
      rw [List.map_append, List.map_map]; rfl
    rw [e]
    refine wp_for (e := Tm.e) (xs := N.map (fun n => Tm.nm n.1) ++ sh) (fun pre ρ => ∃ o1 o2, ρ = [some (.tuple (N.map noE)), some (.tuple (sh.map Tm.e)), some (dcT ((pre.flatMap Tm.parts).foldl (fun δ t => kput δ t.txt t) [])), o1, o2, none, none, none]) ⟨_, _, rfl⟩ (fun pre t post ρ hx hI => ?_) fun ρ hI => ?_
    · obtain ⟨o1, o2, rfl⟩ := hI
      obtain ⟨ts, td⟩ := tx t (by rw [hx]; simp)
      have hl0 := ll pre t post hx
      have tp := parts_len3 td
      walk_at "wp"
      rw [l_parts_ok t 6 (by omega) td]
      walk_at "wp"
      refine wp_for (e := Tm.e) (xs := t.parts) (fun pre2 ρ => ∃ o2, ρ = [some (.tuple (N.map noE)), some (.tuple (sh.map Tm.e)), some (dcT (pre2.foldl (fun δ t => kput δ t.txt t) ((pre.flatMap Tm.parts).foldl (fun δ t => kput δ t.txt t) []))), some t.e, o2, none, none, none]) ⟨_, rfl⟩ (fun pre2 u post2 ρ hx2 hI => ?_) fun ρ hI => ?_
      · obtain ⟨o2, rfl⟩ := hI
        have hu : u ∈ t.parts := by rw [hx2]; simp
        obtain ⟨us, ud⟩ := parts_tx ts u hu
        have hl2 := congrArg List.length hx2
        rw [List.length_append, List.length_cons] at hl2
        have f1 := fold_len (kf := Tm.txt) (vf := id) (pre.flatMap Tm.parts) []
        have f2 := fold_len (kf := Tm.txt) (vf := id) pre2 ((pre.flatMap Tm.parts).foldl (fun δ t => kput δ t.txt t) [])
        walk_at "wp"
        rw [l_text_ok u 6 (by omega) (by omega) us]
        walk_at "wp"
        rw [encD_len]
        refine ⟨flat_isN flatStr, Nat.lt_of_le_of_lt f2 (by have f1 : ((pre.flatMap Tm.parts).foldl (fun δ t => kput δ t.txt t) []).length ≤ 0 + (pre.flatMap Tm.parts).length := f1; omega), some u.e, ?_⟩
        rw [flat_put flatStr, List.foldl_append]; rfl
      · obtain ⟨o2, rfl⟩ := hI
        walk_at "wp"
        refine ⟨some t.e, o2, ?_⟩
        rw [List.flatMap_append, List.foldl_append, List.flatMap_cons, List.flatMap_nil, List.append_nil]
    · obtain ⟨o1, o2, rfl⟩ := hI
      have ea : (N.map (fun n => Tm.nm n.1) ++ sh).flatMap Tm.parts = allT N sh := by
        unfold allT
        rw [List.flatMap_append]
        congr 1
        rw [List.flatMap_map]
        exact List.map_eq_flatMap.symm
      rw [ea]
      walk_at "wp"
      show WpO (gSorted (dcT (kfill Tm.txt id (allT N sh)))) _
      rw [wpo_sorted (keysD_flat flatStr) sortOk_str]
      walk_at "wp"
      refine wp_lcM (e := PyData.str) (fun k => Tm.e ((klook (kfill Tm.txt id (allT N sh)) k).getD default)) (fun k hk => ?_) ?_ ?_
      · obtain ⟨u, hu⟩ := look_fill (ksort_mem.mp hk)
        walk_at "wp"
        show WpO (gDGet (dcT (kfill Tm.txt id (allT N sh))) _) _
        rw [wpo_dget flatStr, hu]
        walk_at "wp"
        rfl
      · have q := kfill_len (kf := Tm.txt) (vf := id) (xs := allT N sh)
        have q2 := h.len
        rw [ksort_len, lineE]
        unfold keys
        rw [List.length_map]; omega
      · try walk_at "wp"
        unfold tmsOf byT
        rw [List.map_map]; rfl
theorem l_rows_ok {m p : Nat} (hm : m ≤ 10) (hp : p = 1 ∨ p = 2) : m__law_rows [nat m, nat p] = .ok (.list ((rws m p).map nats)) [nat m, nat p] := by
  refine WpF.eq ?_
  unfold m__law_rows
  refine wpf_run rfl ?_
  unfold den__law_rows
  simp only [nat_e]
  rcases hp with rfl | rfl
  · walk_at "wp"
    rw [rng_eq]
    refine ⟨by omega, ?_⟩
    refine wp_lcM (e := nat) (fun o => nats [o]) (fun o ho => ?_) (by rw [List.length_range, lineE]; omega) ?_
    · walk_at "wp"
      rfl
    · try walk_at "wp"
      rw [rws_1, List.map_map]; rfl
  · walk_at "wp"
    rw [rng_eq]
    refine ⟨by omega, ?_⟩
    refine wp_for (e := nat) (xs := List.range m) (fun pre ρ => ∃ o1 o2, ρ = [some (.int m), some (.int 2), some (.list ((pre.flatMap fun a => (List.range m).map fun b => [a, b]).map nats)), o1, o2]) ⟨_, _, rfl⟩ (fun pre x post ρ hx hI => ?_) fun ρ hI => ?_
    · obtain ⟨o1, o2, rfl⟩ := hI
      have hk := congrArg List.length hx
      simp only [List.length_range, List.length_append, List.length_cons] at hk
      have hl := flat_len (F := fun a => (List.range m).map fun b => [a, b]) (n := 10) (xs := pre) fun a _ => by simpa using hm
      walk_at "wp"
      rw [rng_eq]
      refine ⟨by omega, ?_⟩
      refine wp_lcM (e := nat) (fun o => nats [x, o]) (fun o ho => ?_) (by rw [List.length_range, lineE]; omega) ?_
      · walk_at "wp"
        rfl
      · try walk_at "wp"
        simp only [List.length_map, List.length_range]
        refine ⟨by omega, some (nat x), o2, ?_⟩
        rw [List.flatMap_append, List.flatMap_cons, List.flatMap_nil, List.append_nil, List.map_append, List.map_map]
        rfl
    · obtain ⟨o1, o2, rfl⟩ := hI
      walk_at "wp"
      rw [rws_2]
theorem l_atoms_ok {F : Fd} (h : ShT F.nts F.sh) (hm : F.mn ≤ 3) (bare : Bool) : m__law_atoms [F.e, .int (if bare then 1 else 0)] = .ok (.list ((F.atoms bare).map atE)) [F.e, .int (if bare then 1 else 0)] := by
  have hl2 := tms_len h
  refine WpF.eq ?_
  unfold m__law_atoms
  refine wpf_run rfl ?_
  unfold den__law_atoms
  have e0 : F.e = .tuple [nsE F.nts, .tuple (F.sh.map Tm.e), nat F.mn] := rfl
  simp only [e0]
  walk_at "wp"
  rw [l_terms_ok h.shOk]
  walk_at "wp"
  refine wp_for (e := Tm.e) (xs := F.tms) (fun pre ρ => ∃ o1 o2, ρ = [some (.tuple [nsE F.nts, .tuple (F.sh.map Tm.e), nat F.mn]), some (.int (if bare then 1 else 0)), some (.list ((atomsOf F.nts F.sh F.mn (pre.filter fun t => !bare || decide (t ∈ F.sh))).map atE)), o1, o2]) ⟨_, _, rfl⟩ (fun pre t post ρ hx hI => ?_) fun ρ hI => ?_
  · obtain ⟨o1, o2, rfl⟩ := hI
    have hk := congrArg List.length hx
    simp only [List.length_append, List.length_cons] at hk
    have hk2 : F.tms.length ≤ 163 := hl2
    obtain ⟨⟨p, hp⟩, hd⟩ := h.tms t (by show t ∈ F.tms; rw [hx]; simp)
    have p12 := hp.p12 h.ns.p12
    have hl := flat_len (F := fun t => (rws F.mn (wd F.nts t)).map fun r => (t, r)) (n := 9) (xs := pre.filter fun t => !bare || decide (t ∈ F.sh)) fun t ht => by
      obtain ⟨⟨p, hp⟩, hd⟩ := h.tms t (by show t ∈ F.tms; rw [hx]; exact List.mem_append_left _ (List.mem_filter.mp ht).1)
      have p12 := hp.p12 h.ns.p12
      rw [List.length_map, rws_len, hp.wd h.ns.nd]
      exact Nat.le_trans (Nat.pow_le_pow_left hm _) (Nat.pow_le_pow_right (n := 3) (by omega) (show p ≤ 2 by omega))
    have hf := List.length_filter_le (fun t => !bare || decide (t ∈ F.sh)) pre
    have hlen : (atomsOf F.nts F.sh F.mn (pre.filter fun t => !bare || decide (t ∈ F.sh))).length ≤ 1500 := by
      unfold atomsOf
      omega
    have rl : (rws F.mn p).length ≤ 9 := by
      rw [rws_len]
      exact Nat.le_trans (Nat.pow_le_pow_left hm _) (Nat.pow_le_pow_right (n := 3) (by omega) (show p ≤ 2 by omega))
    have he : ∀ q : List Tm, (atomsOf F.nts F.sh F.mn q).map atE ++ (rws F.mn p).map (fun r => atE (t, r)) = (atomsOf F.nts F.sh F.mn (q ++ [t])).map atE := fun q => by
      unfold atomsOf
      rw [List.flatMap_append, List.flatMap_cons, List.flatMap_nil, List.append_nil, List.map_append, List.map_map, hp.wd h.ns.nd]
      rfl
    cases bare with
    | false =>
      walk_at "wp"
      rw [l_width_ok h.ns.nd hp 6 (by omega) (by omega)]
      walk_at "wp"
      rw [l_rows_ok (by omega) p12]
      walk_at "wp"
      refine wp_lcM (e := nats) (fun r => atE (t, r)) (fun r hr => ?_) (by rw [lineE]; omega) ?_
      · walk_at "wp"
        rfl
      · try walk_at "wp"
        simp only [List.length_map]
        refine ⟨Nat.le_trans (Nat.add_le_add hlen rl) (by omega), some t.e, o2, ?_⟩
        rw [List.filter_append, List.filter_cons, List.filter_nil]
        simp only [Bool.not_false, Bool.true_or, if_true]
        rw [← he]
    | true =>
      walk_at "wp"
      refine ⟨t.ok (by omega), (okD_tms h.dp).1, ?_⟩
      rw [any_tm]
      refine Bt.dec (fun ht => ?_) fun ht => ?_
      · walk_at "wp"
        rw [l_width_ok h.ns.nd hp 6 (by omega) (by omega)]
        walk_at "wp"
        rw [l_rows_ok (by omega) p12]
        walk_at "wp"
        refine wp_lcM (e := nats) (fun r => atE (t, r)) (fun r hr => ?_) (by rw [lineE]; omega) ?_
        · walk_at "wp"
          rfl
        · try walk_at "wp"
          simp only [List.length_map]
          refine ⟨Nat.le_trans (Nat.add_le_add hlen rl) (by omega), some t.e, o2, ?_⟩
          rw [List.filter_append, List.filter_cons, List.filter_nil, if_pos (by simp [ht]), ← he]
      · walk_at "wp"
        exact ⟨some t.e, o2, by simp [ht]⟩
  · obtain ⟨o1, o2, rfl⟩ := hI
    walk_at "wp"
    rfl
end Mz

set_option Elab.async false
set_option linter.all false
set_option maxRecDepth 100000
set_option maxHeartbeats 1000000
set_option autoImplicit false
namespace Mz
open PySem L2 PySem.Spec PD PyProof.Rows PySem.W Mi
theorem l_atoms0 {F : Fd} (h : ShT F.nts F.sh) (hm : F.mn ≤ 3) : m__law_atoms [F.e, .int 0] = .ok (.list ((F.atoms false).map atE)) [F.e, .int 0] := l_atoms_ok h hm false
theorem l_atoms1 {F : Fd} (h : ShT F.nts F.sh) (hm : F.mn ≤ 3) : m__law_atoms [F.e, .int 1] = .ok (.list ((F.atoms true).map atE)) [F.e, .int 1] := l_atoms_ok h hm true
theorem rn1 : rn 1 1 = [[0]] := by decide
theorem rn2 : rn 2 2 = [[0, 1], [1, 0]] := by decide
theorem rn3 : rn 3 3 = [[0, 1, 2], [0, 2, 1], [1, 0, 2], [1, 2, 0], [2, 0, 1], [2, 1, 0]] := by decide
theorem turnings_ok {m : Nat} (m0 : 1 ≤ m) (m1 : m ≤ 3) : m__law_turnings [nat m] = .ok (.list ((rn m m).map nats)) [nat m] := by
  refine WpF.eq ?_
  unfold m__law_turnings
  refine wpf_run rfl ?_
  unfold den__law_turnings
  simp only [nat_e]
  have : m = 1 ∨ m = 2 ∨ m = 3 := by omega
  rcases this with rfl | rfl | rfl
  · walk_at "wp"
    rw [rn1]; rfl
  · walk_at "wp"
    rw [rn2]; rfl
  · walk_at "wp"
    rw [rn3]; rfl
/-! rising -/
theorem akE_inj {k j : AK} (h : nk (akE k) = nk (akE j)) : k = j := by
  simp only [akE, nk, nks, NestedKey.tup.injEq, List.cons.injEq, NestedKey.text.injEq, and_true] at h
  exact Prod.ext h.1 (nestNats.inj _ _ h.2)
theorem nestAK : NestK akE fun _ => True := by
  refine ⟨fun a _ => ?_, fun a b h => akE_inj h⟩
  have h1 : hsh (akE a) = true := by
    simp only [akE, hsh, hshs, nats, hsh_nats, Bool.and_self]
  have h2 : (nk (akE a)).depth ≤ 8 := by
    have e : (nk (nats a.2)).depth = 1 := by
      show (NestedKey.tup (nks (a.2.map nat))).depth = 1
      rw [nk_nats, NestedKey.depth, depth_nums]
    simp only [akE, nk, nks, NestedKey.depth, NestedKey.depthAll] at e ⊢
    have e2 : (nk (nats a.2)).depth = 1 := by
      show (NestedKey.tup (nks (a.2.map nat))).depth = 1
      rw [nk_nats, NestedKey.depth, depth_nums]
    omega
  unfold keyOkN
  rw [h1, decide_eq_true h2]; rfl
theorem sortOk_ak {ks : List AK} : sortOk (ks.map akE) = true := by
  refine sortOk_of (fun k _ => ⟨?_, ?_, by simp [akE]⟩) (fun k _ j _ => ?_) (.inr (.inl fun _ _ => rfl))
  · simp only [akE, PyData.plain, PyData.plainAll, nats_plain, Bool.and_self]
  · have e := nats_depth (r := k.2)
    simp only [akE, PyData.depth, PyData.depthAll]
    omega
  · simp only [akE, alike, alikeAll, nats_alike, Bool.and_self]
theorem ak_inj {F : Fd} (h : FdOk F) {a b : At} (ha : a ∈ F.A) (hb : b ∈ F.A) (e : akOf a = akOf b) : a = b := by
  have e1 : (akOf a).1 = (akOf b).1 := by rw [e]
  have e2 : (akOf a).2 = (akOf b).2 := by rw [e]
  exact Prod.ext (inj_of h.shT.nok (fun t ht => (h.shT.tms t ht).1) _ (h.mem.mp ha).1 _ (h.mem.mp hb).1 e1) e2
abbrev riF (l : List At) : List (AK × At) := kfill akOf id l
theorem ri_keys {F : Fd} (h : FdOk F) {l : List At} (hl : ∀ a ∈ l, a ∈ F.A) : ksort akE (keys (riF l)) = (rowBy F.A l).map akOf := by
  refine ksort_eq kfill_nodup ?_ fun x => ?_
  · rw [List.pairwise_map]
    exact h.rise.sublist rowBy_sub
  · rw [kfill_mem, List.mem_map, List.mem_map]
    constructor
    · rintro ⟨a, ha, rfl⟩
      exact ⟨a, (rowBy_mem.mp ha).2, rfl⟩
    · rintro ⟨a, ha, rfl⟩
      exact ⟨a, rowBy_mem.mpr ⟨hl a ha, ha⟩, rfl⟩
noncomputable def ofAk (A : List At) (k : AK) : At := (A.find? fun a => decide (akOf a = k)).getD default
theorem ofAk_eq {F : Fd} (h : FdOk F) {a : At} (ha : a ∈ F.A) : ofAk F.A (akOf a) = a := by
  unfold ofAk
  cases e : F.A.find? fun b => decide (akOf b = akOf a) with
  | none =>
    have := List.find?_eq_none.mp e a ha
    simp at this
  | some u =>
    have h1 := List.find?_some e
    have h2 := List.mem_of_find?_eq_some e
    exact ak_inj h h2 ha (by simpa using h1)
theorem ri_look {F : Fd} (h : FdOk F) {l : List At} (hl : ∀ a ∈ l, a ∈ F.A) {a : At} (ha : a ∈ l) : klook (riF l) (akOf a) = some a := by
  rw [kfill_get (ofAk F.A) (fun x hx => by rw [ofAk_eq h (hl x hx)]; rfl) (List.mem_map_of_mem ha), ofAk_eq h (hl a ha)]
theorem rising_ok {F : Fd} (h : FdOk F) {d : PyData} {l : List At} (hd : seqOf d = some (l.map atE)) (hl : ∀ a ∈ l, a ∈ F.A) (hn : l.length ≤ 100000) : m__law_rising [d] = .ok (rowE (rowBy F.A l)) [d] := by
  refine WpF.eq ?_
  unfold m__law_rising
  refine wpf_run rfl ?_
  unfold den__law_rising
  walk_at "wp"
  rw [hd]
  walk_at "wp"
  refine wp_for (e := atE) (xs := l) (fun pre ρ => ∃ o1 o2, ρ = [some d, some (.dict ((.none, .none) :: encD akE atE (pre.foldl (fun δ a => kput δ (akOf a) a) []))), o1, o2, none]) ⟨_, _, rfl⟩ (fun pre a post ρ hx hI => ?_) fun ρ hI => ?_
  · obtain ⟨o1, o2, rfl⟩ := hI
    have ha : a ∈ l := by rw [hx]; simp
    have hA := hl a ha
    obtain ⟨⟨p, hp⟩, hdp⟩ := h.shT.tms _ (h.mem.mp hA).1
    have hk := congrArg List.length hx
    rw [List.length_append, List.length_cons] at hk
    have f1 := fold_len (kf := akOf) (vf := id) pre []
    have e1 : ∀ a : At, atE a = .tuple [a.1.e, nats a.2] := fun _ => rfl
    rw [e1]
    walk_at "wp"
    rw [l_text_ok a.1 6 (by omega) hdp (hp.short fun n hn => h.n8 n hn)]
    walk_at "wp"
    have e2 : PyData.tuple [.str a.1.txt, nats a.2] = akE (akOf a) := rfl
    have e3 : PyData.tuple [a.1.e, nats a.2] = atE a := rfl
    rw [e2, e3, nest_put nestAK, encD_len]
    refine ⟨nestAK.ok _ trivial, ?_, some a.1.e, some (nats a.2), ?_⟩
    · have f1 : (pre.foldl (fun δ a => kput δ (akOf a) a) []).length ≤ 0 + pre.length := f1
      omega
    · rw [List.foldl_append]; rfl
  · obtain ⟨o1, o2, rfl⟩ := hI
    walk_at "wp"
    show WpO (gSorted (.dict ((.none, .none) :: encD akE atE (riF l)))) _
    rw [wpo_sorted keysD_nest sortOk_ak, ri_keys h hl]
    walk_at "wp"
    rw [List.map_map]
    refine wp_lcM (e := akE ∘ akOf) atE (fun a ha => ?_) ?_ ?_
    · simp only [Function.comp]
      walk_at "wp"
      show WpO (gNGet (.dict ((.none, .none) :: encD akE atE (riF l))) (akE (akOf a))) _
      rw [wpo_nget nestAK trivial, ri_look h hl (rowBy_mem.mp ha).2]
      walk_at "wp"
    · rw [lineE]
      exact Nat.le_trans (Nat.le_trans rowBy_sub.length_le h.a0) (by omega)
    · try walk_at "wp"
      try rfl
theorem turned_ok {F : Fd} (h : FdOk F) {l : List At} (hl : ∀ a ∈ l, a ∈ F.A) (hn : l.length ≤ 1000) {p : List Nat} (hp : Ren F.mn p) : m__law_turned [rowE l, nats p] = .ok (rowE (F.rr p l)) [rowE l, nats p] := by
  refine WpF.eq ?_
  unfold m__law_turned
  refine wpf_run rfl ?_
  unfold den__law_turned
  walk_at "wp"
  refine wp_lcM (e := atE) (fun a => atE (ren p a)) (fun a ha => ?_) (by rw [lineE]; omega) ?_
  · obtain ⟨h1, h2⟩ := h.atm (hl a ha)
    obtain ⟨⟨q, hq⟩, _⟩ := h.shT.tms _ (h.mem.mp (hl a ha)).1
    have p12 := hq.p12 h.ns.p12
    have hw := hq.wd h.ns.nd
    have e1 : ∀ a : At, atE a = .tuple [a.1.e, .tuple (a.2.map nat)] := fun _ => rfl
    rw [e1, e1]
    unfold nats
    walk_at "wp"
    refine wp_lcM (e := nat) (fun o => nat (ap p o)) (fun o ho => ?_) (by rw [lineE]; omega) ?_
    · simp only [nat_e]
      walk_at "wp"
      rw [at_nats (by rw [hp.ex.1]; exact h2 o ho)]
      walk_at "wp"
      rfl
    · try walk_at "wp"
      unfold ren
      rw [List.map_map]; rfl
  · try walk_at "wp"
    have e : (l.map fun a => atE (ren p a)) = (l.map (ren p)).map atE := by rw [List.map_map]; rfl
    rw [e, rising_ok h seq_l (fun b hb => ?_) (by rw [List.length_map]; omega)]
    · walk_at "wp"
      rfl
    · rw [List.mem_map] at hb
      obtain ⟨a, ha, rfl⟩ := hb
      exact h.ren hp (hl a ha)
theorem okIx_at {A : List At} (h : ∀ a ∈ A, AtOk a) {a : At} (ha : AtOk a) : okIx (A.map atE) (atE a) = true := by
  unfold okIx
  have := at_depth ha
  rw [plainAll_map fun x _ => at_plain x, at_plain, decide_eq_true (show (atE a).depth ≤ 64 by omega)]; rfl
theorem place_at {A : List At} {a : At} (ha : a ∈ A) : SeqAt.dataPlace (A.map atE) (atE a) = some (idx A a) := by
  unfold SeqAt.dataPlace
  rw [List.findIdx?_map]
  have e : ((fun y => PyData.eqv y (atE a)) ∘ atE) = fun b => decide (b = a) := by
    funext b
    exact at_eqv
  rw [e]
  exact List.findIdx?_eq_some_of_exists ⟨a, ha, by simp⟩
theorem spots_ok {F : Fd} (h : FdOk F) {l : List At} (hl : ∀ a ∈ l, a ∈ F.A) (hn : l.length ≤ 1000) : m__law_spots [F.e, rowE l] = .ok (nats (F.spots l)) [F.e, rowE l] := by
  refine WpF.eq ?_
  unfold m__law_spots
  refine wpf_run rfl ?_
  unfold den__law_spots
  walk_at "wp"
  rw [l_atoms0 h.shT h.m1]
  walk_at "wp"
  refine wp_lcM (e := atE) (fun a => nat (idx F.A a)) (fun a ha => ?_) (by rw [lineE]; omega) ?_
  · walk_at "wp"
    refine ⟨okIx_at (fun a ha => h.atOk ha) (h.atOk (hl a ha)), ?_⟩
    rw [place_at (hl a ha)]
    walk_at "wp"
    rfl
  · try walk_at "wp"
    unfold nats Fd.spots
    rw [List.map_map]; rfl
end Mz

set_option Elab.async false
set_option linter.all false
set_option maxRecDepth 100000
set_option maxHeartbeats 1000000
set_option autoImplicit false
namespace Mz
open PySem L2 PySem.Spec PD PyProof.Rows PySem.W Mi
theorem due_ok {F : Fd} (h : FdOk F) {l : List At} (hl : l.Sublist F.A) : m__law_due_kinds [F.e, rowE l] = .ok (.tuple ((F.kinds l).map rowE)) [F.e, rowE l] := by
  have hm : ∀ a ∈ l, a ∈ F.A := fun a ha => hl.subset ha
  have a0 : F.A.length ≤ 40 := h.a0
  have ll := hl.length_le
  have rl := rn_small h.m1
  refine WpF.eq ?_
  unfold m__law_due_kinds
  refine wpf_run rfl ?_
  unfold den__law_due_kinds
  have e0 : ∀ i, WpO (gIx F.e (.int 2)) i = i (nat F.mn) := fun i => by
    unfold Fd.e
    walk_at "wp"
  walk_at "wp"
  rw [e0]
  walk_at "wp"
  rw [turnings_ok h.m0 h.m1]
  walk_at "wp"
  refine wp_for (e := nats) (xs := rn F.mn F.mn) (fun pre ρ => ∃ o1 o2, ρ = [some F.e, some (rowE l), some (dcK (pre.foldl (fun δ p => kput δ (F.spots (F.rr p l)) (F.rr p l)) [])), o1, o2, none]) ⟨_, _, rfl⟩ (fun pre p post ρ hx hI => ?_) fun ρ hI => ?_
  · obtain ⟨o1, o2, rfl⟩ := hI
    have hp : Ren F.mn p := by
      show p ∈ rn F.mn F.mn
      rw [hx]; simp
    have hr : ∀ a ∈ F.rr p l, a ∈ F.A := fun a ha => rr_sub.subset ha
    have hrl : (F.rr p l).length ≤ F.A.length := rr_sub.length_le
    walk_at "wp"
    rw [turned_ok h hm (by omega) hp]
    walk_at "wp"
    rw [spots_ok h hr (by omega)]
    walk_at "wp"
    have hlen : (pre.foldl (fun δ p => kput δ (F.spots (F.rr p l)) (F.rr p l)) []).length ≤ 27 := by
      have : (pre.foldl (fun δ p => kput δ (F.spots (F.rr p l)) (F.rr p l)) []).length ≤ pre.length := kfill_len (kf := fun p => F.spots (F.rr p l)) (vf := fun p => F.rr p l) (xs := pre)
      have h2 := congrArg List.length hx
      rw [List.length_append] at h2
      omega
    rw [nest_put nestNats, encD_len]
    refine ⟨nestNats.ok _ trivial, by omega, some (nats p), some (rowE (F.rr p l)), ?_⟩
    rw [List.foldl_append]; rfl
  · obtain ⟨o1, o2, rfl⟩ := hI
    walk_at "wp"
    show WpO (gSorted (dcK (F.kd l))) _
    rw [wpo_sorted keysD_nest (sortOk_kd h hl)]
    walk_at "wp"
    refine wp_lcM (e := nats) (fun k => rowE ((klook (F.kd l) k).getD [])) (fun k hk => ?_) ?_ ?_
    · walk_at "wp"
      show WpO (gNGet (dcK (F.kd l)) (nats k)) _
      rw [wpo_nget nestNats trivial]
      have hk := ksort_mem.mp hk
      cases e : klook (F.kd l) k with
      | none => exact absurd hk (klook_none.mp e)
      | some r =>
        walk_at "wp"
        rfl
    · have : (F.kd l).length ≤ (rn F.mn F.mn).length := kfill_len (kf := fun p => F.spots (F.rr p l)) (vf := fun p => F.rr p l) (xs := rn F.mn F.mn)
      rw [ksort_len, lineE]
      unfold keys
      rw [List.length_map]
      omega
    · try walk_at "wp"
      unfold Fd.kinds
      rw [List.map_map]; rfl
theorem even_ok {F : Fd} (h : FdOk F) {l : List At} (hl : l.Sublist F.A) : WpF (m__law_even [F.e, rowE l]) fun d ps => ∃ r : List At, d = rowE r ∧ r.Sublist F.A := by
  have hm : ∀ a ∈ l, a ∈ F.A := fun a ha => hl.subset ha
  have a0 : F.A.length ≤ 40 := h.a0
  have ll := hl.length_le
  have rl := rn_small h.m1
  unfold m__law_even
  refine wpf_run rfl ?_
  unfold den__law_even
  have e0 : ∀ i, WpO (gIx F.e (.int 2)) i = i (nat F.mn) := fun i => by
    unfold Fd.e
    walk_at "wp"
  walk_at "wp"
  rw [e0]
  walk_at "wp"
  rw [turnings_ok h.m0 h.m1]
  walk_at "wp"
  refine wp_for (e := nats) (xs := rn F.mn F.mn) (fun pre ρ => ∃ o1, ρ = [some F.e, some (rowE l), some (.list ((pre.flatMap fun p => F.rr p l).map atE)), o1]) ⟨_, rfl⟩ (fun pre p post ρ hx hI => ?_) fun ρ hI => ?_
  · obtain ⟨o1, rfl⟩ := hI
    have hp : Ren F.mn p := by
      show p ∈ rn F.mn F.mn
      rw [hx]; simp
    have hrl : (F.rr p l).length ≤ F.A.length := rr_sub.length_le
    have hf := flat_len (F := fun p => F.rr p l) (n := 40) (xs := pre) fun p _ => Nat.le_trans rr_sub.length_le h.a0
    have h2 := congrArg List.length hx
    rw [List.length_append] at h2
    walk_at "wp"
    rw [turned_ok h hm (by omega) hp]
    walk_at "wp"
    simp only [List.length_map]
    refine ⟨by omega, some (nats p), ?_⟩
    rw [List.flatMap_append, List.flatMap_cons, List.flatMap_nil, List.append_nil, List.map_append]
  · obtain ⟨o1, rfl⟩ := hI
    have hf := flat_len (F := fun p => F.rr p l) (n := 40) (xs := rn F.mn F.mn) fun p _ => Nat.le_trans rr_sub.length_le h.a0
    walk_at "wp"
    rw [rising_ok h seq_l (fun a ha => ?_) (by omega)]
    · walk_at "wp"
      exact ⟨_, rfl, rowBy_sub⟩
    · rw [List.mem_flatMap] at ha
      obtain ⟨p, _, ha⟩ := ha
      exact rr_sub.subset ha
/-! alike through and through -/
def SmD : Nat → PyData → Prop
  | 0, d => (∃ i, d = .int i) ∨ ∃ x, d = .str x
  | n + 1, d => (∃ i, d = .int i) ∨ (∃ x, d = .str x) ∨ ∃ ds, d = .tuple ds ∧ ds.length ≤ 1000000 ∧ ∀ x ∈ ds, SmD n x
theorem same_int {n : Nat} {i : Int} : m__law_same (n + 1) [.int i, .int i] = .ok (.bool true) [.int i, .int i] := by
  refine WpF.eq ?_
  rw [m__law_same_s]
  refine wpf_run rfl ?_
  unfold den__law_same
  walk_at "wp"
theorem same_str {n : Nat} {i : Str} : m__law_same (n + 1) [.str i, .str i] = .ok (.bool true) [.str i, .str i] := by
  refine WpF.eq ?_
  rw [m__law_same_s]
  refine wpf_run rfl ?_
  unfold den__law_same
  walk_at "wp"
theorem zip_self (ds : List PyData) : zipD ds ds = ds.map fun x => .tuple [x, x] := by
  unfold zipD
  induction ds with
  | nil => rfl
  | cons d ds ih => rw [List.zipWith_cons_cons, ih]; rfl
theorem same_ok : ∀ (n : Nat) (d : PyData), SmD n d → m__law_same (n + 1) [d, d] = .ok (.bool true) [d, d]
  | 0, d, h => by
    rcases h with ⟨i, rfl⟩ | ⟨x, rfl⟩
    · exact same_int
    · exact same_str
  | n + 1, d, h => by
    rcases h with ⟨i, rfl⟩ | ⟨x, rfl⟩ | ⟨ds, rfl, hl, hd⟩
    · exact same_int
    · exact same_str
    · refine WpF.eq ?_
      rw [m__law_same_s]
      refine wpf_run rfl ?_
      unfold den__law_same
      walk_at "wp"
      rw [zip_self]
      refine wp_lcM (e := fun x => .tuple [x, x]) (fun _ => .bool true) (fun x hx => ?_) (by rw [lineE]; omega) ?_
      · walk_at "wp"
        rw [same_ok n x (hd x hx)]
        walk_at "wp"
      · try walk_at "wp"
        rw [wpo_all (f := fun _ => true), List.all_eq_true.mpr (by simp)]
        try walk_at "wp"
theorem SmD.up : ∀ {n m : Nat} {d : PyData}, SmD n d → n ≤ m → SmD m d
  | 0, 0, _, h, _ => h
  | 0, m + 1, _, h, _ => h.elim .inl fun h => .inr (.inl h)
  | n + 1, m + 1, _, h, hm => by
    rcases h with h | h | ⟨ds, e, hl, hd⟩
    · exact .inl h
    · exact .inr (.inl h)
    · exact .inr (.inr ⟨ds, e, hl, fun x hx => (hd x hx).up (by omega)⟩)
  | n + 1, 0, _, _, hm => absurd hm (by omega)
theorem sm_tm : ∀ t : Tm, SmD t.dep t.e
  | .nm s => .inr ⟨s, rfl⟩
  | .un w t => by
    refine .inr (.inr ⟨_, rfl, by simp, fun x hx => ?_⟩)
    simp only [List.mem_cons, List.not_mem_nil, or_false] at hx
    rcases hx with rfl | rfl
    · exact SmD.up (n := 0) (.inr ⟨_, rfl⟩) (by omega)
    · exact sm_tm t
  | .bi w t u => by
    refine .inr (.inr ⟨_, rfl, by simp, fun x hx => ?_⟩)
    simp only [List.mem_cons, List.not_mem_nil, or_false] at hx
    rcases hx with rfl | rfl | rfl
    · exact SmD.up (n := 0) (.inr ⟨_, rfl⟩) (by omega)
    · exact (sm_tm t).up (by omega)
    · exact (sm_tm u).up (by omega)
theorem sm_nats {r : List Nat} (h : r.length ≤ 1000000) : SmD 1 (nats r) := by
  refine .inr (.inr ⟨_, rfl, by simpa using h, fun x hx => ?_⟩)
  rw [List.mem_map] at hx
  obtain ⟨n, _, rfl⟩ := hx
  exact .inl ⟨_, rfl⟩
theorem sm_at {F : Fd} (h : FdOk F) {a : At} (ha : a ∈ F.A) : SmD 4 (atE a) := by
  obtain ⟨h1, h2⟩ := h.atm ha
  obtain ⟨⟨q, hq⟩, hd⟩ := h.shT.tms _ (h.mem.mp ha).1
  have p12 := hq.p12 h.ns.p12
  have hw := hq.wd h.ns.nd
  refine .inr (.inr ⟨_, rfl, by simp, fun x hx => ?_⟩)
  simp only [List.mem_cons, List.not_mem_nil, or_false] at hx
  rcases hx with rfl | rfl
  · exact (sm_tm a.1).up hd
  · exact SmD.up (n := 1) (m := 3) (sm_nats (by omega)) (by omega)
theorem sm_row {F : Fd} (h : FdOk F) {l : List At} (hl : l.Sublist F.A) : SmD 5 (rowE l) := by
  have a0 : F.A.length ≤ 40 := h.a0
  have ll := hl.length_le
  refine .inr (.inr ⟨_, rfl, by rw [List.length_map]; omega, fun x hx => ?_⟩)
  rw [List.mem_map] at hx
  obtain ⟨a, ha, rfl⟩ := hx
  exact sm_at h (hl.subset ha)
theorem kinds_len {F : Fd} (h : FdOk F) {l : List At} : (F.kinds l).length ≤ 27 := by
  have rl := rn_small h.m1
  have : (F.kd l).length ≤ (rn F.mn F.mn).length := kfill_len (kf := fun p => F.spots (F.rr p l)) (vf := fun p => F.rr p l) (xs := rn F.mn F.mn)
  unfold Fd.kinds
  rw [List.length_map, ksort_len]
  unfold keys
  rw [List.length_map]
  omega
theorem kinds_sub {F : Fd} {l r : List At} (hr : r ∈ F.kinds l) : r.Sublist F.A := by
  obtain ⟨p, _, rfl⟩ := kinds_mem.mp hr
  exact rr_sub
theorem sm_kinds {F : Fd} (h : FdOk F) {l : List At} : SmD 6 (.tuple ((F.kinds l).map rowE)) := by
  have := kinds_len h (l := l)
  refine .inr (.inr ⟨_, rfl, by rw [List.length_map]; omega, fun x hx => ?_⟩)
  rw [List.mem_map] at hx
  obtain ⟨r, hr, rfl⟩ := hx
  exact sm_row h (kinds_sub hr)
end Mz

set_option Elab.async false
set_option linter.all false
set_option maxRecDepth 100000
set_option maxHeartbeats 1000000
set_option autoImplicit false
namespace Mz
open PySem L2 PySem.Spec PD PyProof.Rows PySem.W Mi
theorem Pool.up {n m : Nat} {p : PyData} (h : Pool n p) (hn : n ≤ m) : Pool m p := by
  obtain ⟨a, b, c, e, h1, h2, h3, h4, h5⟩ := h.ex
  exact ⟨a, b, c, e, h1, h2, h3, h4, by omega⟩
/-- a draw -/
theorem take_k {n : Nat} {p : PyData} {m : Int} {R : PyData → List PyData → Prop} (h : Pool n p) (h0 : 0 < m) (h1 : m < 1000) (hn : n < 1000000) (k : ∀ k p', 0 ≤ k → k < m → Pool (n + 1) p' → R (.int k) [p', .int m]) : WpF (m__law_take [p, .int m]) R := by
  refine (take_ok h h0 h1 hn).imp ?_
  rintro _ _ ⟨i, p', rfl, rfl, h2, h3, h4⟩
  exact k i p' h2 h3 h4
/-! ### names -/
structure Low (s : Str) : Prop where
  l0 : 1 ≤ s.length
  l1 : s.length ≤ 8
  low : ∀ c ∈ s.cps.toList, 97 ≤ c ∧ c ≤ 122
def sg (c : Nat) : Str := ⟨#[c]⟩
/-- one sign otherwise -/
def alt (w : Str) (i c : Nat) : Str := cutS w none (some (i : Int)) ++ sg c ++ cutS w (some ((i : Int) + 1)) none
theorem len_cs (s : Str) : s.cps.toList.length = s.length := by rw [Array.length_toList]; rfl
theorem cut_lo {w : Str} {i : Nat} (h : i ≤ w.length) : (cutS w none (some (i : Int))).cps.toList = w.cps.toList.take i := by
  unfold cutS
  rw [HT.sIx_none, HT.sIx_nat]
  simp [Nat.min_eq_left h]
theorem cut_hi {w : Str} {i : Nat} (h : i < w.length) : (cutS w (some ((i : Int) + 1)) none).cps.toList = w.cps.toList.drop (i + 1) := by
  unfold cutS
  rw [HT.sIx_none, show ((i : Int) + 1) = ((i + 1 : Nat) : Int) from rfl, HT.sIx_nat, Nat.min_eq_left h]
  show List.take _ _ = _
  rw [← len_cs w]
  apply List.take_of_length_le
  rw [List.length_drop]
  omega
theorem alt_cs {w : Str} {i c : Nat} (h : i < w.length) : (alt w i c).cps.toList = w.cps.toList.take i ++ c :: w.cps.toList.drop (i + 1) := by
  unfold alt
  rw [app_cs, app_cs, cut_lo (by omega), cut_hi h, List.append_assoc]; rfl
theorem alt_low {w : Str} {i c : Nat} (hw : Low w) (h : i < w.length) (hc : 97 ≤ c ∧ c ≤ 122) : Low (alt w i c) := by
  have e := alt_cs (c := c) h
  have hl : (alt w i c).length = w.length := by
    rw [← len_cs, e, List.length_append, List.length_cons, List.length_take, List.length_drop, len_cs]
    omega
  refine ⟨by rw [hl]; exact hw.l0, by rw [hl]; exact hw.l1, fun x hx => ?_⟩
  rw [e, List.mem_append, List.mem_cons] at hx
  rcases hx with hx | rfl | hx
  · exact hw.low x (List.mem_of_mem_take hx)
  · exact hc
  · exact hw.low x (List.mem_of_mem_drop hx)
theorem alt_inj {w : Str} {i c d : Nat} (h : i < w.length) (e : alt w i c = alt w i d) : c = d := by
  have h1 := alt_cs (c := c) h
  rw [e, alt_cs h] at h1
  exact (List.cons.inj (List.append_cancel_left h1)).1.symm
theorem letters_cs : letters.cps.toList = (List.range 26).map fun i => 97 + i := by decide +kernel
theorem letters_low : ∀ c ∈ letters.cps.toList, 97 ≤ c ∧ c ≤ 122 := by decide +kernel
theorem ab_low : ∀ c ∈ ("ab" : Str).cps.toList, 97 ≤ c ∧ c ≤ 122 := by decide +kernel
theorem letters_len : letters.length = 26 := by decide +kernel
theorem ab_len : ("ab" : Str).length = 2 := by decide +kernel
def alts (w : Str) (i : Nat) : List Str := w :: (letters.cps.toList.map fun c => alt w i c)
/-- one of them is new -/
theorem alts_new {w : Str} {i : Nat} {found : List Str} (h : i < w.length) (hf : found.length ≤ 20) : (alts w i).filter (fun s => !decide (s ∈ found)) ≠ [] := by
  intro e
  rw [List.filter_eq_nil_iff] at e
  have nd : (letters.cps.toList.map fun c => alt w i c).Nodup := by
    unfold List.Nodup
    rw [List.pairwise_map]
    have nl : letters.cps.toList.Nodup := by decide +kernel
    exact List.Pairwise.imp (fun {a b} hab q => hab (alt_inj h q)) nl
  have := nd_len nd (m := found) fun s hs => by
    have := e s (List.mem_cons_of_mem _ hs)
    simpa using this
  rw [List.length_map, len_cs, letters_len] at this
  omega
theorem any_str {xs : List Str} {s : Str} : ((xs.map PyData.str).any fun y => PyData.eqv y (.str s)) = decide (s ∈ xs) := by
  rw [List.any_map]
  by_cases h : s ∈ xs
  · rw [decide_eq_true h, List.any_eq_true]
    exact ⟨s, h, by simp [Function.comp, eqv_str]⟩
  · rw [decide_eq_false h, List.any_eq_false]
    intro x hx
    simp only [Function.comp, eqv_str, decide_eq_true_eq]
    exact fun e => h (e ▸ hx)
theorem okl_str {xs : List Str} : okD (.list (xs.map PyData.str)) = true := ok_lst fun x _ => ⟨rfl, by simp [PyData.depth]⟩
@[irreducible] def names_tail : DenS :=
    (dSeq (dSet 6 (dCallP m__law_take 0 (dCons (d1 gLen (dVar 5)) dNil)))
    (dSeq (dSet 7 (dOp oAdd (dLst (dCons (dVar 5) dNil)) (dLC (dSigns (dC (.str "abcdefghijklmnopqrstuvwxyz"))) (tName 9) dYes (dOp oAdd (dOp oAdd (dSl (dVar 5) dNo (dSo (dVar 6))) (dVar 9)) (dSl (dVar 5) (dSo (dOp oAdd (dVar 6) (dC (.int 1)))) dNo)) [9])))
    (dApp 3 (dOp gIx (dLC (dItems (dVar 7)) (tName 10) (dB (dOp gNotIn (dVar 10) (dVar 3))) (dVar 10) [10]) (dC (.int 0))))))
theorem names_split : den__law_names = (dSeq (dSet 2 (dOp gIx (dLst (dCons (dC (.str "abcdefghijklmnopqrstuvwxyz")) (dCons (dC (.str "ab")) dNil))) (dCallP m__law_take 0 (dCons (dC (.int 2)) dNil))))
    (dSeq (dSetO 3 (dLst (dCons (dC (.str "not")) (dCons (dC (.str "both")) (dCons (dC (.str "either")) (dCons (dC (.str "turned")) (dCons (dC (.str "chain")) (dCons (dC (.str "some")) dNil))))))))
    (dSeq (dFor (dRng1 (dVar 1)) (tName 4) (dSeq (dSet 5 (dJoin (dC (.str "")) (dLC (dRng1 (dOp oAdd (dC (.int 1)) (dCallP m__law_take 0 (dCons (dC (.int 8)) dNil)))) (tName 8) dYes (dOp gIx (dVar 2) (dCallP m__law_take 0 (dCons (d1 gLen (dVar 2)) dNil))) [8])))
    (dSeq (dIfS (dAnd (dB (dOp (gI0 fun i j => .bool (decide (j < i))) (dVar 4) (dC (.int 0)))) (dB (dOp gEq (dCallP m__law_take 0 (dCons (dC (.int 3)) dNil)) (dC (.int 0)))))
    (dSet 5 (dOpO gIx 3 (dNeg (dC (.int 1)))))
    dSkip)
    names_tail)))
    (dRet (dSlO 3 (dSo (dC (.int 6))) dNo))))) := by unfold names_tail; rfl
theorem names_tail_ok {n : Nat} {p : PyData} {ns : List Str} {w : Str} {d1 d2 d4 d6 d7 d8 d9 d10 : Option PyData} (hp : Pool n p) (hn : n < 900000) (hw : Low w) (hl : ns.length ≤ 20) :
    Wp (names_tail [some p, d1, d2, some (.list (ns.map PyData.str)), d4, some (.str w), d6, d7, d8, d9, d10]) fun fl ρ => fl = .nx ∧ ∃ p' x o6 o7, ρ = [some p', d1, d2, some (.list ((ns ++ [x]).map PyData.str)), d4, some (.str w), o6, o7, d8, d9, d10] ∧ Low x ∧ x ∉ ns ∧ Pool (n + 1) p' := by
  have w0 := hw.l0
  have w1 := hw.l1
  unfold names_tail
  walk_at "wp"
  refine ⟨by omega, ?_⟩
  refine take_k hp (by omega) (by omega) (by omega) fun k p' k0 k1 hp' => ?_
  obtain ⟨i, rfl⟩ := Int.eq_ofNat_of_zero_le k0
  walk_at "wp"
  have hi : i < w.length := by omega
  refine wp_lcM (e := fun c => .str (sg c)) (xs := letters.cps.toList) (fun c => .str (alt w i c)) (fun c hc => ?_) (by rw [len_cs, letters_len, lineE]; omega) ?_
  · have hlow := letters_low c hc
    walk_at "wp"
    have a1 : (cutS w none (some (i : Int))).length ≤ 8 := by
      rw [← len_cs, cut_lo (by omega), List.length_take, len_cs]; omega
    have a2 : (cutS w (some ((i : Int) + 1)) none).length ≤ 8 := by
      rw [← len_cs, cut_hi hi, List.length_drop, len_cs]; omega
    have a3 : (sg c).length = 1 := rfl
    refine ⟨by omega, by omega, by omega, ?_, rfl⟩
    rw [slen, a3]; omega
  · rw [wpo_addL]
    refine ⟨by rw [List.length_map, len_cs, letters_len, lineE]; simp, ?_⟩
    have e : ([PyData.str w] ++ letters.cps.toList.map fun c => PyData.str (alt w i c)) = (alts w i).map PyData.str := by
      unfold alts
      rw [List.map_cons, List.map_map]; rfl
    rw [e]
    walk_at "wp"
    refine wp_lcF (e := PyData.str) (fun s => !decide (s ∈ ns)) PyData.str (fun s hs => ?_) ?_ ?_
    · walk_at "wp"
      refine ⟨okl_str, ?_⟩
      rw [any_str]
      simp
    · unfold alts
      rw [List.length_cons, List.length_map, len_cs, letters_len, lineE]; omega
    · have ne := alts_new (found := ns) hi (by omega)
      cases hf : (alts w i).filter fun s => !decide (s ∈ ns) with
      | nil => exact absurd hf ne
      | cons x xs =>
        have hx : x ∈ (alts w i).filter fun s => !decide (s ∈ ns) := by rw [hf]; simp
        rw [List.mem_filter] at hx
        walk_at "wp"
        rw [List.length_map]
        refine ⟨by omega, p', x, _, _, by rw [List.map_append]; rfl, ?_, by simpa using hx.2, hp'⟩
        have h1 := hx.1
        unfold alts at h1
        rw [List.mem_cons, List.mem_map] at h1
        rcases h1 with rfl | ⟨c, hc, rfl⟩
        · exact hw
        · exact alt_low hw hi (letters_low c hc)
end Mz

set_option Elab.async false
set_option linter.all false
set_option maxRecDepth 100000
set_option maxHeartbeats 1000000
set_option autoImplicit false
namespace Mz
open PySem L2 PySem.Spec PD PyProof.Rows PySem.W Mi
theorem emp_cs : ("" : Str).cps.toList = [] := by decide +kernel
theorem join_sg : ∀ cs : List Nat, (Str.join "" (cs.map sg)).cps.toList = cs
  | [] => rfl
  | [c] => rfl
  | c :: d :: cs => by
    show ((sg c ++ ("" : Str)) ++ Str.join "" (sg d :: cs.map sg)).cps.toList = _
    rw [app_cs, app_cs, emp_cs, List.append_nil]
    have := join_sg (d :: cs)
    rw [List.map_cons] at this
    rw [this]; rfl
theorem cut_k {xs : List PyData} {k : Nat} (h : k ≤ xs.length) : PD.cutD xs (some (k : Int)) none = xs.drop k := by
  unfold PD.cutD
  rw [HT.sIx_none, HT.sIx_nat, Nat.min_eq_left h]
  apply List.take_of_length_le
  rw [List.length_drop]
  omega
theorem sum_ones (cs : List Nat) : ((cs.map sg).map (·.length)).sum = cs.length := by
  induction cs with
  | nil => rfl
  | cons c cs ih =>
    rw [List.map_cons, List.map_cons, List.sum_cons, ih, List.length_cons]
    have : (sg c).length = 1 := rfl
    omega
theorem names_ok {n : Nat} {p : PyData} {m : Nat} (hp : Pool n p) (hn : n < 100000) (m0 : 1 ≤ m) (m1 : m ≤ 3) : WpF (m__law_names [p, nat m]) fun d ps => ∃ (ns : List Str) (p' : PyData), d = .list (ns.map PyData.str) ∧ ps = [p', nat m] ∧ ns.length = m ∧ ns.Nodup ∧ (∀ s ∈ ns, NameOk s) ∧ Pool (n + 100) p' := by
  unfold m__law_names
  refine wpf_run rfl ?_
  rw [names_split]
  simp only [nat_e]
  walk_at "wp"
  refine take_k hp (by omega) (by omega) (by omega) fun k p1 k0 k1 hp1 => ?_
  have hL : ∃ L : Str, (∀ c ∈ L.cps.toList, 97 ≤ c ∧ c ≤ 122) ∧ 1 ≤ L.length ∧ L.length ≤ 26 ∧ ∀ K : PyData → Prop, K (.str L) → WpO (atI [PyData.str letters, .str "ab"] k) K := by
    have : k = 0 ∨ k = 1 := by omega
    rcases this with rfl | rfl
    · exact ⟨letters, letters_low, by rw [letters_len]; omega, by rw [letters_len]; omega, fun K h => by rw [at_0]; rw [wpo_some]; exact h⟩
    · exact ⟨"ab", ab_low, by rw [ab_len]; omega, by rw [ab_len]; omega, fun K h => by rw [at_1]; rw [wpo_some]; exact h⟩
  obtain ⟨L, hlow, hL0, hL1, hK⟩ := hL
  walk_at "wp"
  refine hK _ ?_
  walk_at "wp"
  rw [rng_eq]
  refine ⟨by omega, ?_⟩
  have wl : [PyData.str "not", .str "both", .str "either", .str "turned", .str "chain", .str "some"] = (words ++ ([] : List Str)).map PyData.str := rfl
  refine wp_for (e := nat) (xs := List.range m) (fun pre ρ => ∃ (q : PyData) (ns : List Str) (o4 o5 o6 o7 : Option PyData), ρ = [some q, some (.int m), some (.str L), some (.list ((words ++ ns).map PyData.str)), o4, o5, o6, o7, none, none, none] ∧ ns.length = pre.length ∧ ns.Nodup ∧ (∀ s ∈ ns, NameOk s) ∧ Pool (n + 1 + pre.length * 20) q) ⟨p1, [], _, _, _, _, rfl, rfl, by simp, by simp, hp1.up (by omega)⟩ (fun pre x post ρ hx hI => ?_) fun ρ hI => ?_
  · obtain ⟨q, ns, o4, o5, o6, o7, rfl, h1, h2, h3, h4⟩ := hI
    have hk := congrArg List.length hx
    rw [List.length_range, List.length_append, List.length_cons] at hk
    have hxv : x = pre.length := by
      have e : (List.range m)[pre.length]? = some x := by rw [hx]; simp
      rw [List.getElem?_range (by omega)] at e
      exact (Option.some.inj e).symm
    -- the tail
    have tail : ∀ (w : Str) (q' : PyData) (o4 o6 o7 : Option PyData), Low w → Pool (n + 1 + pre.length * 20 + 15) q' → Wp (names_tail [some q', some (.int m), some (.str L), some (.list ((words ++ ns).map PyData.str)), o4, some (.str w), o6, o7, none, none, none]) (Turn (fun fl ρ => Nx fl (Wp (dRet (dSlO 3 (dSo (dC (.int 6))) dNo) ρ) (PD.Fin (fun d ps => ∃ (ns : List Str) (p' : PyData), d = .list (ns.map PyData.str) ∧ ps = [p', .int m] ∧ ns.length = m ∧ ns.Nodup ∧ (∀ s ∈ ns, NameOk s) ∧ Pool (n + 100) p') P__law_names [p, .int m])) fun fl => PD.Fin (fun d ps => ∃ (ns : List Str) (p' : PyData), d = .list (ns.map PyData.str) ∧ ps = [p', .int m] ∧ ns.length = m ∧ ns.Nodup ∧ (∀ s ∈ ns, NameOk s) ∧ Pool (n + 100) p') P__law_names [p, .int m] fl ρ) fun ρ => ∃ (q : PyData) (ns : List Str) (o4 o5 o6 o7 : Option PyData), ρ = [some q, some (.int m), some (.str L), some (.list ((words ++ ns).map PyData.str)), o4, o5, o6, o7, none, none, none] ∧ ns.length = (pre ++ [x]).length ∧ ns.Nodup ∧ (∀ s ∈ ns, NameOk s) ∧ Pool (n + 1 + (pre ++ [x]).length * 20) q) := by
      intro w q' o4 o6 o7 hw hq'
      refine (names_tail_ok (ns := words ++ ns) hq' (by omega) hw (by simp [words]; omega)).imp ?_
      rintro fl ρ ⟨rfl, p', y, o6', o7', rfl, hy, hyn, hp'⟩
      rw [turn_nx]
      rw [List.mem_append, not_or] at hyn
      refine ⟨p', ns ++ [y], o4, some (.str w), o6', o7', by rw [List.append_assoc], by simp [h1], ?_, fun s hs => ?_, hp'.up (by simp; omega)⟩
      · rw [List.nodup_append]
        exact ⟨h2, by simp, fun a ha b hb => by simp at hb; subst hb; exact fun e => hyn.2 (e ▸ ha)⟩
      · rw [List.mem_append, List.mem_singleton] at hs
        rcases hs with hs | rfl
        · exact h3 s hs
        · exact ⟨hy.l0, hy.l1, hy.low, hyn.1⟩
    walk_at "wp"
    refine take_k h4 (by omega) (by omega) (by omega) fun i q1 i0 i1 hq1 => ?_
    obtain ⟨t, rfl⟩ := Int.eq_ofNat_of_zero_le i0
    walk_at "wp"
    refine ⟨by omega, ?_⟩
    have er : rngD 0 (1 + (t : Int)).toNat = (List.range (1 + t)).map nat := by
      rw [show (1 + (t : Int)) = ((1 + t : Nat) : Int) by omega, rng_eq]
    rw [er]
    refine wp_lcI (e := nat) (xs := List.range (1 + t)) (fun pre2 acc ρ => ∃ (q2 : PyData) (cs : List Nat), ρ = [some q2, some (.int m), some (.str L), some (.list ((words ++ ns).map PyData.str)), some (.int x), o5, o6, o7, none, none, none] ∧ acc = (cs.map sg).map PyData.str ∧ cs.length = pre2.length ∧ (∀ c ∈ cs, 97 ≤ c ∧ c ≤ 122) ∧ Pool (n + 1 + pre.length * 20 + 1 + pre2.length) q2) ⟨q1, [], rfl, rfl, rfl, by simp, hq1⟩ (fun pre2 y post2 acc ρ hx2 hI => ?_) fun acc ρ hI => ?_
    · obtain ⟨q2, cs, rfl, rfl, c1, c2, c3⟩ := hI
      have hk2 := congrArg List.length hx2
      rw [List.length_range, List.length_append, List.length_cons] at hk2
      walk_at "wp"
      refine ⟨by omega, ?_⟩
      refine take_k c3 (by omega) (by omega) (by omega) fun j q3 j0 j1 hq3 => ?_
      walk_at "wp"
      refine ⟨by omega, ?_⟩
      refine wpo_at j0 (by rw [len_cs]; omega) fun c hc _ => ?_
      refine ⟨[some q3, some (.int m), some (.str L), some (.list ((words ++ ns).map PyData.str)), some (.int x), o5, o6, o7, none, none, none], rfl, q3, cs ++ [c], rfl, ?_, ?_, ?_, ?_⟩
      · rw [List.map_append, List.map_append]; rfl
      · simp [c1]
      · intro d hd
        rw [List.mem_append, List.mem_singleton] at hd
        rcases hd with hd | rfl
        · exact c2 d hd
        · exact hlow d hc
      · refine hq3.up ?_
        simp only [List.length_append, List.length_cons, List.length_nil]; omega
    · obtain ⟨q2, cs, rfl, rfl, c1, c2, c3⟩ := hI
      rw [List.length_range] at c1 c3
      refine ⟨by simp [c1, lineE]; omega, ⟨rfl, fun i hi => by rw [List.mem_singleton] at hi; subst hi; rfl⟩, ?_⟩
      rw [wpo_join]
      have hs := sum_ones cs
      have h00 : ("" : Str).length = 0 := by decide +kernel
      refine ⟨by rw [hs, h00]; simp [c1]; omega, ?_⟩
      have hw : Low (Str.join "" (cs.map sg)) := by
        have e := join_sg cs
        have hl : (Str.join "" (cs.map sg)).length = cs.length := by rw [← len_cs, e]
        exact ⟨by omega, by omega, by rw [e]; exact c2⟩
      walk_at "wp"
      refine Bt.dec (fun hx0 => ?_) fun hx0 => ?_
      · walk_at "wp"
        refine take_k c3 (by omega) (by omega) (by omega) fun j q3 j0 j1 hq3 => ?_
        walk_at "wp"
        refine Bt.dec (fun _ => ?_) fun _ => ?_
        · walk_at "wp"
          obtain ⟨ns0, z, rfl⟩ : ∃ ns0 z, ns = ns0 ++ [z] := by
            have : ns ≠ [] := fun e => by rw [e] at h1; simp at h1; omega
            exact ⟨_, _, (List.dropLast_concat_getLast this).symm⟩
          have el : (words ++ (ns0 ++ [z])).map PyData.str = (words ++ ns0).map PyData.str ++ [PyData.str z] := by
            rw [← List.append_assoc, List.map_append]; rfl
          rw [el, at_last, wpo_some, ← el]
          walk_at "wp"
          have hz := h3 z (by simp)
          exact tail z q3 _ _ _ ⟨hz.l0, hz.l1, hz.low⟩ (hq3.up (by omega))
        · walk_at "wp"
          exact tail _ q3 _ _ _ hw (hq3.up (by omega))
      · walk_at "wp"
        exact tail _ q2 _ _ _ hw (c3.up (by omega))
  · obtain ⟨q, ns, o4, o5, o6, o7, rfl, h1, h2, h3, h4⟩ := hI
    rw [List.length_range] at h1 h4
    walk_at "wp"
    rw [show (6 : Int) = ((6 : Nat) : Int) from rfl, cut_k (by simp [words])]
    refine ⟨ns, q, ?_, rfl, h1, h2, h3, h4.up (by omega)⟩
    rw [← List.map_drop]; rfl
end Mz

set_option Elab.async false
set_option linter.all false
set_option maxRecDepth 100000
set_option maxHeartbeats 2000000
set_option autoImplicit false
namespace Mz
open PySem L2 PySem.Spec PD PyProof.Rows PySem.W Mi
theorem notions_g_ok {n : Nat} {p : PyData} (hp : Pool n p) (hn : n < 90000) : WpF (m__law_notions [p]) fun d ps => ∃ (N : Ns) (p' : PyData), d = nsE N ∧ ps = [p'] ∧ NsOk N ∧ Pool (n + 120) p' := by
  unfold m__law_notions
  refine wpf_run rfl ?_
  unfold den__law_notions
  walk_at "wp"
  refine take_k hp (by omega) (by omega) (by omega) fun k p1 k0 k1 hp1 => ?_
  obtain ⟨j, rfl⟩ := Int.eq_ofNat_of_zero_le k0
  walk_at "wp"
  rw [show (1 + (j : Int)) = ((1 + j : Nat) : Int) by omega, ← nat_e]
  refine (names_ok hp1 (by omega) (by omega) (by omega)).imp ?_
  rintro _ _ ⟨ns, p2, rfl, rfl, h1, h2, h3, hp2⟩
  walk_at "wp"
  refine wp_lcI (e := PyData.str) (xs := ns) (fun pre acc ρ => ∃ (q : PyData) (N : Ns), ρ = [some q, some (.list (ns.map PyData.str)), none] ∧ acc = N.map noE ∧ N.map (·.1) = pre ∧ (∀ x ∈ N, x.2 = 1 ∨ x.2 = 2) ∧ Pool (n + 110 + pre.length) q) ⟨p2, [], rfl, rfl, rfl, by simp, hp2.up (by simp)⟩ (fun pre s post acc ρ hx hI => ?_) fun acc ρ hI => ?_
  · obtain ⟨q, N, rfl, rfl, h4, h5, h6⟩ := hI
    have hk := congrArg List.length hx
    rw [List.length_append, List.length_cons] at hk
    walk_at "wp"
    refine take_k h6 (by omega) (by omega) (by omega) fun i q2 i0 i1 hq2 => ?_
    walk_at "wp"
    refine ⟨[some q2, some (.list (ns.map PyData.str)), none], rfl, q2, N ++ [(s, if 0 < i then 2 else 1)], rfl, ?_, ?_, ?_, ?_⟩
    · rw [List.map_append]
      congr 1
      by_cases hi : 0 < i
      · simp [noE, nat_e, hi]
      · simp [noE, nat_e, hi]
    · simp [h4]
    · intro x hx
      rw [List.mem_append, List.mem_singleton] at hx
      rcases hx with hx | rfl
      · exact h5 x hx
      · by_cases hi : 0 < i <;> simp [hi]
    · exact hq2.up (by simp; omega)
  · obtain ⟨q, N, rfl, rfl, h4, h5, h6⟩ := hI
    have hl : N.length = ns.length := by rw [← h4]; simp
    refine ⟨by rw [List.length_map, lineE]; omega, ⟨rfl, fun i hi => by rw [List.mem_singleton] at hi; subst hi; rfl⟩, ?_⟩
    walk_at "wp"
    refine ⟨N, q, rfl, rfl, ⟨by omega, by omega, by rw [h4]; exact h2, fun x hx => ⟨h3 _ (by rw [← h4]; exact List.mem_map_of_mem (f := (·.1)) hx), h5 x hx⟩⟩, h6.up (by omega)⟩
theorem cut_m1 {ys : List PyData} {y : PyData} : PD.cutD (ys ++ [y]) none (some (-1)) = ys := by
  unfold PD.cutD
  have e : HT.sIx (ys ++ [y]).length (ys ++ [y]).length (some (-1)) = ys.length := by
    show (if (-1 : Int) < 0 then ((-1 : Int) + (((ys ++ [y]).length : Nat) : Int)).toNat else min (-1 : Int).toNat (ys ++ [y]).length) = ys.length
    rw [if_pos (by omega)]
    simp only [List.length_append, List.length_cons, List.length_nil]
    omega
  rw [e, HT.sIx_none]
  simp
theorem wp_lst1 {i : Nat} {ρ : PD.Env} {d : PyData} {Q : PyData → PD.Env → Prop} (h : ρ[i]? = some (some d)) (k : Q (.list [d]) ρ) : Wp (dLst (dCons (dVar i) dNil) ρ) Q := by
  rw [wp_lst, wp_cons, wp_var, h, wpo_some, wpo_some, wp_nil]
  exact ⟨by rw [lineE]; simp, k⟩
def Tm.isNm : Tm → Bool
  | .nm _ => true
  | _ => false
theorem isT_tm (t : Tm) : isT .str t.e = t.isNm := by cases t <;> rfl
theorem at6 {a b c d e f : PyData} {i : Int} {K : PyData → Prop} (h0 : 0 ≤ i) (h1 : i < 6) (k0 : i = 0 → K a) (k1 : i = 1 → K b) (k2 : i = 2 → K c) (k3 : i = 3 → K d) (k4 : i = 4 → K e) (k5 : i = 5 → K f) : WpO (atI [a, b, c, d, e, f] i) K := by
  have : i = 0 ∨ i = 1 ∨ i = 2 ∨ i = 3 ∨ i = 4 ∨ i = 5 := by omega
  rcases this with rfl | rfl | rfl | rfl | rfl | rfl
  · rw [show atI [a, b, c, d, e, f] (0 : Int) = some a from rfl, wpo_some]; exact k0 rfl
  · rw [show atI [a, b, c, d, e, f] (1 : Int) = some b from rfl, wpo_some]; exact k1 rfl
  · rw [show atI [a, b, c, d, e, f] (2 : Int) = some c from rfl, wpo_some]; exact k2 rfl
  · rw [show atI [a, b, c, d, e, f] (3 : Int) = some d from rfl, wpo_some]; exact k3 rfl
  · rw [show atI [a, b, c, d, e, f] (4 : Int) = some e from rfl, wpo_some]; exact k4 rfl
  · rw [show atI [a, b, c, d, e, f] (5 : Int) = some f from rfl, wpo_some]; exact k5 rfl
theorem at2 {a b : PyData} {i : Int} {K : PyData → Prop} (h0 : 0 ≤ i) (h1 : i < 2) (k0 : K a) (k1 : K b) : WpO (atI [a, b] i) K := by
  have : i = 0 ∨ i = 1 := by omega
  rcases this with rfl | rfl
  · rw [at_0, wpo_some]; exact k0
  · rw [at_1, wpo_some]; exact k1
@[irreducible] def term_tail : DenS :=
    (dSeq (dSet 7 (dOp gIx (dVar 6) (dCallP m__law_take 0 (dCons (d1 gLen (dVar 6)) dNil))))
    (dSeq (dSet 8 (dCallP m__law_take 0 (dCons (dOp gIx (dLst (dCons (dC (.int 3)) (dCons (dC (.int 6)) dNil))) (dOp (gI0 fun i j => .int (i - j)) (dVar 5) (dC (.int 1)))) dNil)))
    (dSeq (dSet 9 (dOp gIx (dLst (dCons (dTup (dCons (dVar 4) (dCons (dVar 7) dNil))) (dCons (dTup (dCons (dVar 7) (dCons (dVar 4) dNil))) dNil))) (dCallP m__law_take 0 (dCons (dC (.int 2)) dNil))))
    (dSeq (dSet 10 (dLst (dCons (dTup (dCons (dC (.str "not")) (dCons (dVar 4) dNil))) (dCons (dOp oAdd (dTup (dCons (dC (.str "both")) dNil)) (dVar 9)) (dCons (dOp oAdd (dTup (dCons (dC (.str "either")) dNil)) (dVar 9)) (dCons (dOp oAdd (dTup (dCons (dC (.str "chain")) dNil)) (dVar 9)) dNil))))))
    (dSeq (dSet 4 (dOp gIx (dOp oAdd (dVar 10) (dLst (dCons (dTup (dCons (dC (.str "turned")) (dCons (dVar 4) dNil))) (dCons (dTup (dCons (dC (.str "some")) (dCons (dVar 4) dNil))) dNil)))) (dVar 8)))
    (dSet 5 (dOp (gI0 fun i j => .int (i - j)) (dVar 5) (d1 gInt (dOp gEq (dVar 8) (dC (.int 5)))))))))))
theorem term_split : den__law_term =
    (dSeq (dAsg (dOp gIx (dVar 1) (dCallP m__law_take 0 (dCons (d1 gLen (dVar 1)) dNil))) (tTupl (tsCons (tName 4) (tsCons (tName 5) tsNil))))
    (dSeq (dFor (dRng1 (dCallP m__law_take 0 (dCons (dOp oAdd (dVar 2) (dC (.int 1))) dNil))) (tName 3) (dSeq (dSet 6 (dOp oAdd (dLC (dItems (dVar 1)) (tTupl (tsCons (tName 11) (tsCons (tName 12) tsNil))) (dB (dOp gEq (dVar 12) (dVar 5))) (dVar 11) [11, 12]) (dLst (dCons (dVar 4) dNil))))
    (dSeq (dIfS (dNot (dB (dIs .str (dVar 4))))
    (dSet 6 (dOp oAdd (dVar 6) (dLC (dItems (dSl (dVar 6) dNo (dSo (dNeg (dC (.int 1)))))) (tName 7) dYes (dTup (dCons (dC (.str "not")) (dCons (dVar 7) dNil))) [7])))
    dSkip)
    term_tail)))
    (dRet (dTup (dCons (dVar 4) (dCons (dVar 5) dNil)))))) := by unfold term_tail; rfl
theorem term_tail_ok {n : Nat} {p : PyData} {N : Ns} {t : Tm} {q : Nat} {M : List Tm} {d1 d2 d3 d7 d8 d9 d10 d11 d12 : Option PyData} (hp : Pool n p) (hn : n < 900000) (hq : q = 1 ∨ q = 2) (ht : Ty N t q) (hM : ∀ u ∈ M, Ty N u q ∧ u.dep ≤ t.dep) (m0 : 1 ≤ M.length) (m1 : M.length < 100) :
    Wp (term_tail [some p, d1, d2, d3, some t.e, some (nat q), some (.list (M.map Tm.e)), d7, d8, d9, d10, d11, d12]) fun fl ρ => fl = .nx ∧ ∃ (p' : PyData) (u : Tm) (r : Nat) (o6 o7 o8 o9 o10 : Option PyData), ρ = [some p', d1, d2, d3, some u.e, some (nat r), o6, o7, o8, o9, o10, d11, d12] ∧ Ty N u r ∧ u.dep ≤ t.dep + 1 ∧ Pool (n + 3) p' := by
  unfold term_tail
  simp only [nat_e]
  walk_at "wp"
  rw [List.length_map]
  refine take_k hp (by omega) (by omega) (by omega) fun k p1 k0 k1 hp1 => ?_
  walk_at "wp"
  refine wpo_at k0 (by rw [List.length_map]; exact k1) fun d hd _ => ?_
  rw [List.mem_map] at hd
  obtain ⟨u, hu, rfl⟩ := hd
  obtain ⟨hu1, hu2⟩ := hM u hu
  walk_at "wp"
  have fin : ∀ (p' : PyData) (v : Tm) (r : Nat) (o6 o7 o8 o9 o10 : Option PyData) (i : Int), Ty N v r → v.dep ≤ t.dep + 1 → Pool (n + 3) p' → i = r → ∃ (p'_1 : PyData) (u : Tm) (r : Nat) (o6_1 o7_1 o8_1 o9_1 o10_1 : Option PyData), [some p', d1, d2, d3, some v.e, some (.int i), o6, o7, o8, o9, o10, d11, d12] = [some p'_1, d1, d2, d3, some u.e, some (.int r), o6_1, o7_1, o8_1, o9_1, o10_1, d11, d12] ∧ Ty N u r ∧ u.dep ≤ t.dep + 1 ∧ Pool (n + 3) p'_1 := fun p' v r o6 o7 o8 o9 o10 i h1 h2 h3 h4 => ⟨p', v, r, o6, o7, o8, o9, o10, by rw [h4], h1, h2, h3⟩
  have dn : ∀ w, (Tm.un w t).dep ≤ t.dep + 1 := fun w => by simp only [Tm.dep]; omega
  have d1' : ∀ w, (Tm.bi w t u).dep ≤ t.dep + 1 := fun w => by simp only [Tm.dep]; omega
  have d2' : ∀ w, (Tm.bi w u t).dep ≤ t.dep + 1 := fun w => by simp only [Tm.dep]; omega
  rcases hq with rfl | rfl
  · walk_at "wp"
    refine take_k hp1 (by omega) (by omega) (by omega) fun w p2 w0 w1 hp2 => ?_
    walk_at "wp"
    refine take_k hp2 (by omega) (by omega) (by omega) fun j p3 j0 j1 hp3 => ?_
    walk_at "wp"
    refine at2 j0 j1 ?_ ?_
    · walk_at "wp"
      refine at6 w0 (by omega) (fun e => ?_) (fun e => ?_) (fun e => ?_) (fun e => by omega) (fun e => by omega) (fun e => by omega)
      · subst e; walk_at "wp"; exact fin p3 (.un "not" t) 1 _ _ _ _ _ _ (.not ht) (dn _) (hp3.up (by omega)) rfl
      · subst e; walk_at "wp"; exact fin p3 (.bi "both" t u) 1 _ _ _ _ _ _ (.both ht hu1) (d1' _) (hp3.up (by omega)) rfl
      · subst e; walk_at "wp"; exact fin p3 (.bi "either" t u) 1 _ _ _ _ _ _ (.either ht hu1) (d1' _) (hp3.up (by omega)) rfl
    · walk_at "wp"
      refine at6 w0 (by omega) (fun e => ?_) (fun e => ?_) (fun e => ?_) (fun e => by omega) (fun e => by omega) (fun e => by omega)
      · subst e; walk_at "wp"; exact fin p3 (.un "not" t) 1 _ _ _ _ _ _ (.not ht) (dn _) (hp3.up (by omega)) rfl
      · subst e; walk_at "wp"; exact fin p3 (.bi "both" u t) 1 _ _ _ _ _ _ (.both hu1 ht) (d2' _) (hp3.up (by omega)) rfl
      · subst e; walk_at "wp"; exact fin p3 (.bi "either" u t) 1 _ _ _ _ _ _ (.either hu1 ht) (d2' _) (hp3.up (by omega)) rfl
  · walk_at "wp"
    refine take_k hp1 (by omega) (by omega) (by omega) fun w p2 w0 w1 hp2 => ?_
    walk_at "wp"
    refine take_k hp2 (by omega) (by omega) (by omega) fun j p3 j0 j1 hp3 => ?_
    walk_at "wp"
    refine at2 j0 j1 ?_ ?_
    · walk_at "wp"
      refine at6 w0 (by omega) (fun e => ?_) (fun e => ?_) (fun e => ?_) (fun e => ?_) (fun e => ?_) (fun e => ?_)
      · subst e; walk_at "wp"; exact fin p3 (.un "not" t) 2 _ _ _ _ _ _ (.not ht) (dn _) (hp3.up (by omega)) rfl
      · subst e; walk_at "wp"; exact fin p3 (.bi "both" t u) 2 _ _ _ _ _ _ (.both ht hu1) (d1' _) (hp3.up (by omega)) rfl
      · subst e; walk_at "wp"; exact fin p3 (.bi "either" t u) 2 _ _ _ _ _ _ (.either ht hu1) (d1' _) (hp3.up (by omega)) rfl
      · subst e; walk_at "wp"; exact fin p3 (.bi "chain" t u) 2 _ _ _ _ _ _ (.chain ht hu1) (d1' _) (hp3.up (by omega)) rfl
      · subst e; walk_at "wp"; exact fin p3 (.un "turned" t) 2 _ _ _ _ _ _ (.turned ht) (dn _) (hp3.up (by omega)) rfl
      · subst e; walk_at "wp"; exact fin p3 (.un "some" t) 1 _ _ _ _ _ _ (.some ht) (dn _) (hp3.up (by omega)) rfl
    · walk_at "wp"
      refine at6 w0 (by omega) (fun e => ?_) (fun e => ?_) (fun e => ?_) (fun e => ?_) (fun e => ?_) (fun e => ?_)
      · subst e; walk_at "wp"; exact fin p3 (.un "not" t) 2 _ _ _ _ _ _ (.not ht) (dn _) (hp3.up (by omega)) rfl
      · subst e; walk_at "wp"; exact fin p3 (.bi "both" u t) 2 _ _ _ _ _ _ (.both hu1 ht) (d2' _) (hp3.up (by omega)) rfl
      · subst e; walk_at "wp"; exact fin p3 (.bi "either" u t) 2 _ _ _ _ _ _ (.either hu1 ht) (d2' _) (hp3.up (by omega)) rfl
      · subst e; walk_at "wp"; exact fin p3 (.bi "chain" u t) 2 _ _ _ _ _ _ (.chain hu1 ht) (d2' _) (hp3.up (by omega)) rfl
      · subst e; walk_at "wp"; exact fin p3 (.un "turned" t) 2 _ _ _ _ _ _ (.turned ht) (dn _) (hp3.up (by omega)) rfl
      · subst e; walk_at "wp"; exact fin p3 (.un "some" t) 1 _ _ _ _ _ _ (.some ht) (dn _) (hp3.up (by omega)) rfl
theorem term_g_ok {n : Nat} {p : PyData} {N : Ns} {deep : Nat} (hp : Pool n p) (hn : n < 90000) (hN : NsOk N) (hd : deep ≤ 3) : WpF (m__law_term [p, nsE N, nat deep]) fun d ps => ∃ (t : Tm) (q : Nat) (p' : PyData), d = .tuple [t.e, nat q] ∧ ps = [p', nsE N, nat deep] ∧ Ty N t q ∧ t.dep ≤ deep ∧ Pool (n + 20) p' := by
  have l0 := hN.l0
  have l1 := hN.l1
  unfold m__law_term
  refine wpf_run rfl ?_
  rw [term_split]
  have e0 : nsE N = .tuple (N.map noE) := rfl
  simp only [e0, nat_e]
  walk_at "wp"
  rw [List.length_map]
  refine take_k hp (by omega) (by omega) (by omega) fun k p1 k0 k1 hp1 => ?_
  walk_at "wp"
  refine wpo_at k0 (by rw [List.length_map]; exact k1) fun d hd' _ => ?_
  rw [List.mem_map] at hd'
  obtain ⟨x, hx, rfl⟩ := hd'
  have en : noE x = .tuple [.str x.1, .int x.2] := rfl
  rw [en]
  walk_at "wp"
  refine take_k hp1 (by omega) (by omega) (by omega) fun turns p2 t0 t1 hp2 => ?_
  obtain ⟨T, rfl⟩ := Int.eq_ofNat_of_zero_le t0
  walk_at "wp"
  rw [rng_eq]
  refine ⟨by omega, ?_⟩
  refine wp_for (e := nat) (xs := List.range T) (fun pre ρ => ∃ (q : PyData) (t : Tm) (r : Nat) (o3 o6 o7 o8 o9 o10 : Option PyData), ρ = [some q, some (.tuple (N.map noE)), some (.int deep), o3, some t.e, some (.int r), o6, o7, o8, o9, o10, none, none] ∧ Ty N t r ∧ t.dep ≤ pre.length ∧ Pool (n + 2 + 3 * pre.length) q) ⟨p2, .nm x.1, x.2, _, _, _, _, _, _, rfl, .nm hx, by simp [Tm.dep], hp2.up (by simp)⟩ (fun pre y post ρ hy hI => ?_) fun ρ hI => ?_
  · obtain ⟨q, t, r, o3, o6, o7, o8, o9, o10, rfl, ht, htd, hq⟩ := hI
    have hk := congrArg List.length hy
    rw [List.length_range, List.length_append, List.length_cons] at hk
    have r12 := ht.p12 hN.p12
    have tail : ∀ (M : List Tm) (o7 : Option PyData), (∀ u ∈ M, Ty N u r ∧ u.dep ≤ t.dep) → 1 ≤ M.length → M.length < 100 → ∀ S : Fl → PD.Env → Prop, (∀ ρ, (∃ (q : PyData) (t : Tm) (r : Nat) (o3 o6 o7 o8 o9 o10 : Option PyData), ρ = [some q, some (.tuple (N.map noE)), some (.int deep), o3, some t.e, some (.int r), o6, o7, o8, o9, o10, none, none] ∧ Ty N t r ∧ t.dep ≤ (pre ++ [y]).length ∧ Pool (n + 2 + 3 * (pre ++ [y]).length) q) → S .nx ρ) → Wp (term_tail [some q, some (.tuple (N.map noE)), some (.int deep), some (nat y), some t.e, some (.int r), some (.list (M.map Tm.e)), o7, o8, o9, o10, none, none]) S := by
      intro M o7 hM m0 m1 S hS
      refine (term_tail_ok hq (by omega) r12 ht hM m0 m1).imp ?_
      rintro fl ρ ⟨rfl, p', u, r', a6, a7, a8, a9, a10, rfl, hu, hud, hp'⟩
      exact hS _ ⟨p', u, r', _, a6, a7, a8, a9, a10, rfl, hu, by rw [List.length_append, List.length_cons, List.length_nil]; omega, hp'.up (by rw [List.length_append, List.length_cons, List.length_nil]; omega)⟩
    walk_at "wp"
    refine wp_lcF (e := noE) (fun x => decide (x.2 = r)) (fun x => .str x.1) (fun x hx => ?_) (by rw [lineE]; omega) ?_
    · have en : noE x = .tuple [.str x.1, .int x.2] := rfl
      rw [en]
      walk_at "wp"
      refine ⟨decide_eq_decide.mpr (by omega), fun _ => trivial, fun _ => trivial⟩
    · have hfl := List.length_filter_le (fun x : Str × Nat => decide (x.2 = r)) N
      refine wp_lst1 rfl ?_
      rw [wpo_addL]
      refine ⟨by rw [List.length_map, lineE]; simp; omega, ?_⟩
      have em : ((N.filter fun x => decide (x.2 = r)).map fun x => PyData.str x.1) ++ [t.e] = (((N.filter fun x => decide (x.2 = r)).map fun x => Tm.nm x.1) ++ [t]).map Tm.e := by
        rw [List.map_append, List.map_map]; rfl
      have hM : ∀ u ∈ ((N.filter fun x => decide (x.2 = r)).map fun x => Tm.nm x.1) ++ [t], Ty N u r ∧ u.dep ≤ t.dep := by
        intro u hu
        rw [List.mem_append, List.mem_singleton, List.mem_map] at hu
        rcases hu with ⟨x, hx, rfl⟩ | rfl
        · rw [List.mem_filter] at hx
          have e := of_decide_eq_true hx.2
          exact ⟨.nm (by rw [← e]; exact hx.1), by simp [Tm.dep]⟩
        · exact ⟨ht, Nat.le_refl _⟩
      rw [em]
      walk_at "wp"
      rw [isT_tm]
      cases hnm : t.isNm with
      | true =>
        walk_at "wp"
        refine tail _ _ hM (by simp) (by simp; omega) _ fun ρ hρ => ?_
        rw [turn_nx]; exact hρ
      | false =>
        walk_at "wp"
        rw [List.map_append, List.map_cons, List.map_nil, cut_m1]
        refine wp_lcM (e := Tm.e) (fun u => (Tm.un "not" u).e) (fun u hu => ?_) ?_ ?_
        · walk_at "wp"
          rfl
        · rw [List.length_map, lineE]; omega
        · rw [wpo_addL]
          refine ⟨by simp [lineE]; omega, ?_⟩
          have em2 : (((N.filter fun x => decide (x.2 = r)).map fun x => Tm.nm x.1).map Tm.e ++ [t.e]) ++ (((N.filter fun x => decide (x.2 = r)).map fun x => Tm.nm x.1).map fun u => (Tm.un "not" u).e) = ((((N.filter fun x => decide (x.2 = r)).map fun x => Tm.nm x.1) ++ [t]) ++ (((N.filter fun x => decide (x.2 = r)).map fun x => Tm.nm x.1).map fun u => Tm.un "not" u)).map Tm.e := by
            rw [List.map_append, List.map_append, List.map_map (g := Tm.e) (f := fun u => Tm.un "not" u)]; rfl
          rw [em2]
          walk_at "wp"
          refine tail _ _ (fun u hu => ?_) (by simp; omega) (by simp; omega) _ fun ρ hρ => ?_
          · rw [List.mem_append] at hu
            rcases hu with hu | hu
            · exact hM u hu
            · rw [List.mem_map] at hu
              obtain ⟨v, hv, rfl⟩ := hu
              obtain ⟨h1, h2⟩ := hM v (List.mem_append_left _ hv)
              rw [List.mem_map] at hv
              obtain ⟨x, _, rfl⟩ := hv
              refine ⟨.not h1, ?_⟩
              cases t with
              | nm _ => cases hnm
              | un _ _ => simp only [Tm.dep]; omega
              | bi _ _ _ => simp only [Tm.dep]; omega
          · rw [turn_nx]; exact hρ
  · obtain ⟨q, t, r, o3, o6, o7, o8, o9, o10, rfl, ht, htd, hq⟩ := hI
    rw [List.length_range] at htd hq
    walk_at "wp"
    exact ⟨t, r, q, rfl, rfl, ht, by omega, hq.up (by omega)⟩
end Mz

set_option Elab.async false
set_option linter.all false
set_option maxRecDepth 100000
set_option maxHeartbeats 2000000
set_option autoImplicit false
namespace Mz
open PySem L2 PySem.Spec PD PyProof.Rows PySem.W Mi
theorem cnt_sh {N : Ns} {sh : List Tm} {m : Nat} (h : ShT N sh) (snd : sh.Nodup) : cnt N m sh = ((Fd.mk N sh m).atoms true).length := by
  unfold Fd.atoms
  rw [cnt_atoms]
  unfold cnt
  apply sum_perm
  apply List.Perm.map
  show sh.Perm (List.filter (fun t => !true || decide (t ∈ sh)) (tmsOf N sh))
  rw [List.perm_ext_iff_of_nodup snd (h.nd.filter _)]
  intro t
  rw [List.mem_filter]
  simp only [Bool.not_true, Bool.false_or, decide_eq_true_eq]
  exact ⟨fun q => ⟨h.sub t q, q⟩, fun q => q.2⟩
theorem atoms_one {N : Ns} {t : Tm} (h : ShT N [t]) : ((Fd.mk N [t] 1).atoms false).length ≤ 40 := by
  unfold Fd.atoms
  rw [cnt_atoms]
  unfold cnt
  have e : ∀ l : List Tm, (l.map fun t => (rws 1 (wd N t)).length).sum = l.length := by
    intro l
    induction l with
    | nil => rfl
    | cons x l ih => rw [List.map_cons, List.sum_cons, ih, rws_len, Nat.one_pow, List.length_cons]; omega
  rw [e]
  have h1 := List.length_filter_le (fun u => !false || decide (u ∈ [t])) (tmsOf N [t])
  have h2 : (tmsOf N [t]).length ≤ (allT N [t]).length := byT_le
  have h3 := parts_len3 (h.dp t (by simp))
  have h4 := h.ns.l1
  have h5 : (allT N [t]).length = N.length + t.parts.length := by simp [allT]
  have h6 : (List.filter (fun u => !false || decide (u ∈ [t])) (Fd.mk N [t] 1).tms).length ≤ (tmsOf N [t]).length := h1
  show (List.filter (fun u => !false || decide (u ∈ [t])) (Fd.mk N [t] 1).tms).length ≤ 40
  omega
theorem field_g_ok {n : Nat} {p : PyData} {top : Nat} (hp : Pool n p) (hn : n < 50000) (h3 : 3 ≤ top) (h10 : top ≤ 10) : WpF (m__law_field [p, nat top]) fun d ps => ∃ (F : Fd) (p' : PyData), d = F.e ∧ ps = [p', nat top] ∧ FdOk F ∧ (F.atoms true).length ≤ top ∧ Pool (n + 300) p' := by
  unfold m__law_field
  refine wpf_run rfl ?_
  unfold den__law_field
  simp only [nat_e]
  walk_at "wp"
  refine (notions_g_ok hp (by omega)).imp ?_
  rintro _ _ ⟨N, p1, rfl, rfl, hN, hp1⟩
  walk_at "wp"
  refine (term_g_ok (deep := 3) hp1 (by omega) hN (Nat.le_refl 3)).imp ?_
  rintro _ _ ⟨t, q, p2, rfl, rfl, ht, htd, hp2⟩
  walk_at "wp"
  refine take_k hp2 (by omega) (by omega) (by omega) fun k p3 k0 k1 hp3 => ?_
  obtain ⟨k, rfl⟩ := Int.eq_ofNat_of_zero_le k0
  walk_at "wp"
  have hq12 := ht.p12 hN.p12
  have sT : ShT N [t] := ⟨hN, by simp, fun u hu => by rw [List.mem_singleton] at hu; subst hu; exact ⟨q, ht⟩, fun u hu => by rw [List.mem_singleton] at hu; subst hu; exact htd⟩
  refine wp_while (fun m ρ => m ≤ 3 ∧ 1 ≤ m ∧ ρ = [some p3, some (.int top), some (nsE N), some (.int m), none, none, some t.e, some (nat q), none, none]) 5 (1 + k) _ (by omega) ⟨by omega, by omega, by rw [show ((1 + k : Nat) : Int) = 1 + (k : Int) by omega]⟩ ?_
  rintro m ρ ⟨m1, m0, rfl⟩
  walk_at "wp"
  rw [← nat_e m, l_rows_ok (by omega) hq12]
  walk_at "wp"
  have eF : PyData.tuple [nsE N, .tuple [t.e], nat m] = (Fd.mk N [t] m).e := rfl
  have dec : ∀ S : Fl → PD.Env → Prop, 2 ≤ m → Wp (dSet 3 (dOp (gI0 fun i j => .int (i - j)) (dVar 3) (dC (.int 1))) [some p3, some (.int top), some (nsE N), some (nat m), none, none, some t.e, some (nat q), none, none]) (Turn S fun ρ2 => ∃ m', m' < m ∧ m' ≤ 3 ∧ 1 ≤ m' ∧ ρ2 = [some p3, some (.int top), some (nsE N), some (.int m'), none, none, some t.e, some (nat q), none, none]) := by
    intro S h2
    simp only [nat_e]
    walk_at "wp"
    refine ⟨m - 1, by omega, by omega, by omega, ?_⟩
    rw [show ((m - 1 : Nat) : Int) = (m : Int) - 1 by omega]
  refine Bt.dec (fun hb => ?_) fun hb => ?_
  · rw [List.length_map, rws_len] at hb
    refine ⟨fun _ => dec _ ?_, fun z => absurd rfl z⟩
    rcases Nat.lt_or_ge m 2 with h | h
    · have : m = 1 := by omega
      subst this
      rw [Nat.one_pow] at hb
      omega
    · exact h
  · rw [List.length_map] at hb
    walk_at "wp"
    rw [eF, l_atoms0 (F := Fd.mk N [t] m) sT m1]
    walk_at "wp"
    rw [List.length_map]
    have two : ∀ b : Bool, b = decide ((40 : Int) < (((Fd.mk N [t] m).atoms false).length : Nat)) → b = true → 2 ≤ m := fun b hb hbt => by
      rw [hb] at hbt
      have hbt := of_decide_eq_true hbt
      rcases Nat.lt_or_ge m 2 with h | h
      · have : m = 1 := by omega
        subst this
        have := atoms_one sT
        omega
      · exact h
    refine ⟨fun h => ?_, fun h => ?_⟩
    · have h2 := two _ rfl h
      simp only [nat_e]
      walk_at "wp"
      refine ⟨m - 1, by omega, by omega, by omega, ?_⟩
      rw [show ((m - 1 : Nat) : Int) = (m : Int) - 1 by omega]
    have hb0 : ((Fd.mk N [t] m).atoms false).length ≤ 40 := by
      have : ¬ ((40 : Int) < (((Fd.mk N [t] m).atoms false).length : Nat)) := fun z => h (decide_eq_true z)
      omega
    have hb1 : ((Fd.mk N [t] m).atoms true).length ≤ top := by
      rw [← cnt_sh sT (by simp)]
      unfold cnt
      rw [List.map_cons, List.map_nil, List.sum_cons, List.sum_nil, ht.wd hN.nd]
      omega
    have ok0 : FdOk (Fd.mk N [t] m) := ⟨hN, by simp, by simp, by simp, sT.ty, sT.dp, m0, m1, by omega, hb0⟩
    simp only [nat_e]
    refine take_k hp3 (by omega) (by omega) (by omega) fun j p4 j0 j1 hp4 => ?_
    obtain ⟨T, rfl⟩ := Int.eq_ofNat_of_zero_le j0
    walk_at "wp"
    rw [rng_eq]
    refine ⟨by omega, ?_⟩
    refine wp_for (e := nat) (xs := List.range T) (fun pre ρ => ∃ (q0 : PyData) (ts : List Tm) (o5 o7 o8 o9 : Option PyData), ρ = [some q0, some (.int top), some (nsE N), some (.int m), some (.list (ts.map Tm.e)), o5, some t.e, o7, o8, o9] ∧ FdOk (Fd.mk N ts m) ∧ ((Fd.mk N ts m).atoms true).length ≤ top ∧ ts.length ≤ 1 + pre.length ∧ Pool (n + 145 + 25 * pre.length) q0) ⟨p4, [t], _, _, _, _, rfl, ok0, hb1, by simp, hp4.up (by simp)⟩ (fun pre y post ρ hy hI => ?_) fun ρ hI => ?_
    · obtain ⟨q0, ts, o5, o7, o8, o9, rfl, ok, ot, ol, hq0⟩ := hI
      have hk := congrArg List.length hy
      rw [List.length_range, List.length_append, List.length_cons] at hk
      walk_at "wp"
      refine take_k hq0 (by omega) (by omega) (by omega) fun i q1 i0 i1 hq1 => ?_
      obtain ⟨i, rfl⟩ := Int.eq_ofNat_of_zero_le i0
      walk_at "wp"
      rw [show PyData.int (1 + (i : Int)) = nat (1 + i) by rw [nat_e, show ((1 + i : Nat) : Int) = 1 + (i : Int) by omega]]
      refine (term_g_ok hq1 (by omega) hN (by omega)).imp ?_
      rintro _ _ ⟨u, r, q2, rfl, rfl, hu, hud, hq2⟩
      walk_at "wp"
      have ol2 := ok.s1
      have ol3 : ts.length ≤ 3 := by omega
      rw [List.length_map]
      refine ⟨by show ts.length ≤ 16777215; omega, ?_⟩
      have ea : ts.map Tm.e ++ [u.e] = (ts ++ [u]).map Tm.e := by rw [List.map_append]; rfl
      have eF : PyData.tuple [nsE N, .tuple (ts.map Tm.e ++ [u.e]), .int m] = (Fd.mk N (ts ++ [u]) m).e := by rw [ea]; rfl
      have sT2 : ShT N (ts ++ [u]) := ⟨hN, by simp; omega, fun v hv => by
        rw [List.mem_append, List.mem_singleton] at hv
        rcases hv with hv | rfl
        · exact ok.ty v hv
        · exact ⟨r, hu⟩, fun v hv => by
        rw [List.mem_append, List.mem_singleton] at hv
        rcases hv with hv | rfl
        · exact ok.dp v hv
        · omega⟩
      have stay : ∀ (o5 o7 o8 o9 : Option PyData), ∃ (q0 : PyData) (ts_1 : List Tm) (o5_1 o7_1 o8_1 o9_1 : Option PyData), [some q2, some (.int top), some (nsE N), some (.int m), some (.list (ts.map Tm.e)), o5, some t.e, o7, o8, o9] = [some q0, some (.int top), some (nsE N), some (.int m), some (.list (ts_1.map Tm.e)), o5_1, some t.e, o7_1, o8_1, o9_1] ∧ FdOk (Fd.mk N ts_1 m) ∧ ((Fd.mk N ts_1 m).atoms true).length ≤ top ∧ ts_1.length ≤ 1 + (pre ++ [y]).length ∧ Pool (n + 145 + 25 * (pre ++ [y]).length) q0 := fun o5 o7 o8 o9 => ⟨q2, ts, o5, o7, o8, o9, rfl, ok, ot, by simp; omega, hq2.up (by simp; omega)⟩
      refine ⟨u.ok (by omega), (okD_tms fun v hv => ok.dp v hv).2, ?_⟩
      rw [any_tm]
      refine Bt.decn (fun hnew => ?_) fun hold => ?_
      · rw [eF]
        walk_at "wp"
        rw [l_atoms1 (F := Fd.mk N (ts ++ [u]) m) sT2 m1]
        walk_at "wp"
        rw [List.length_map]
        refine Bt.dec (fun hc1 => ?_) fun hc1 => ?_
        · walk_at "wp"
          rw [l_atoms0 (F := Fd.mk N (ts ++ [u]) m) sT2 m1]
          walk_at "wp"
          rw [List.length_map]
          refine Bt.dec (fun hc0 => ?_) fun hc0 => ?_
          · walk_at "wp"
            rw [List.length_map]
            refine ⟨by omega, q2, ts ++ [u], _, _, _, _, by rw [ea], ⟨hN, by simp, by simp; omega, ?_, sT2.ty, sT2.dp, m0, m1, by omega, by omega⟩, by omega, by simp; omega, hq2.up (by simp; omega)⟩
            rw [List.nodup_append]
            exact ⟨ok.snd, by simp, fun a ha b hb => by simp at hb; subst hb; exact fun e => hnew (e ▸ ha)⟩
          · walk_at "wp"
            exact stay _ _ _ _
        · walk_at "wp"
          exact stay _ _ _ _
      · walk_at "wp"
        exact stay _ _ _ _
    · obtain ⟨q0, ts, o5, o7, o8, o9, rfl, ok, ot, ol, hq0⟩ := hI
      rw [List.length_range] at ol hq0
      walk_at "wp"
      exact ⟨Fd.mk N ts m, q0, rfl, rfl, ok, ot, hq0.up (by omega)⟩
end Mz

set_option Elab.async false
set_option linter.all false
set_option maxRecDepth 100000
set_option maxHeartbeats 2000000
set_option autoImplicit false
namespace Mz
open PySem L2 PySem.Spec PD PyProof.Rows PySem.W Mi
/-! ### how long a text of data is -/
structure Sh (b : Nat) (d : PyData) : Prop where
  ok : d.showable = true
  len : d.shown.length ≤ b
theorem Sh.up {b c : Nat} {d : PyData} (h : Sh b d) (hb : b ≤ c) : Sh c d := ⟨h.ok, Nat.le_trans h.len hb⟩
theorem sh_str {x : Str} {k : Nat} (h : ∀ c ∈ x.cps.toList, c < 16 ^ 8) (hl : x.length ≤ k) : Sh (10 * k + 2) (.str x) :=
  ⟨rfl, by show (reprText x).length ≤ _; have := StrLaws.reprText_len x h; omega⟩
theorem nat_sh : ∀ n : Nat, n < 10 → ((PyData.int (n : Int)).shown).length ≤ 2 := by decide +kernel
theorem nat_shw : ∀ n : Nat, n < 10 → (PyData.int (n : Int)).showable = true := by decide +kernel
theorem sh_nat {n : Nat} (h : n < 10) : Sh 2 (nat n) := ⟨nat_shw n h, nat_sh n h⟩
theorem shAll_ok {b : Nat} : ∀ {xs : List PyData}, (∀ x ∈ xs, Sh b x) → PyData.showableAll xs = true
  | [], _ => rfl
  | x :: xs, h => by
    show (x.showable && PyData.showableAll xs) = true
    rw [(h x (by simp)).ok, shAll_ok fun y hy => h y (by simp [hy])]; rfl
theorem shAll_len {b : Nat} : ∀ {xs : List PyData}, (∀ x ∈ xs, Sh b x) → piled (PyData.shownAll xs) ≤ xs.length * (b + 2)
  | [], _ => Nat.zero_le _
  | x :: xs, h => by
    have h1 := (h x (by simp)).len
    have h2 := shAll_len (xs := xs) fun y hy => h y (by simp [hy])
    show piled (x.shown :: PyData.shownAll xs) ≤ _
    rw [piled_cons, List.length_cons, Nat.add_mul]; omega
theorem tupT_len (ts : List Str) : (tupleText ts).length ≤ piled ts + 3 := by
  have h1 : ("(" : Str).length = 1 := by decide +kernel
  have h2 : (",)" : Str).length = 2 := by decide +kernel
  have h3 : (")" : Str).length = 1 := by decide +kernel
  have hj : (Str.join ", " ts).length ≤ piled ts := by
    cases ts with
    | nil => decide +kernel
    | cons t r => have := join_length_add (t :: r) (by simp); omega
  unfold tupleText
  rw [slen, slen, h1]
  split
  · rw [h2]; omega
  · rw [h3]; omega
theorem sh_tup {b k : Nat} {xs : List PyData} (h : ∀ x ∈ xs, Sh b x) (hl : xs.length ≤ k) : Sh (k * (b + 2) + 3) (.tuple xs) := by
  refine ⟨?_, ?_⟩
  · show PyData.showableAll xs = true
    exact shAll_ok h
  · show (tupleText (PyData.shownAll xs)).length ≤ _
    have h1 := tupT_len (PyData.shownAll xs)
    have h2 := shAll_len h
    have h3 : xs.length * (b + 2) ≤ k * (b + 2) := Nat.mul_le_mul_right _ hl
    omega
def bnd : Nat → Nat
  | 0 => 82
  | d + 1 => 3 * (bnd d + 2) + 3
theorem bnd_le {a b : Nat} (h : a ≤ b) : bnd a ≤ bnd b := by
  induction h with
  | refl => exact Nat.le_refl _
  | step _ ih => simp only [bnd]; omega
theorem bnd0 (d : Nat) : 82 ≤ bnd d := bnd_le (Nat.zero_le d)
theorem word_sh {w : Str} (h : w ∈ words) : Sh 82 (.str w) := by
  have hc : ∀ w ∈ words, (∀ c ∈ w.cps.toList, c < 16 ^ 8) ∧ w.length ≤ 8 := by decide +kernel
  exact sh_str (hc w h).1 (hc w h).2
theorem un_sh {w : Str} {t : Tm} (hw : w ∈ words) (ht : Sh (bnd t.dep) t.e) : Sh (bnd (t.dep + 1)) (Tm.un w t).e := by
  refine sh_tup (b := bnd t.dep) (k := 3) (fun x hx => ?_) (by simp)
  simp only [List.mem_cons, List.not_mem_nil, or_false] at hx
  rcases hx with rfl | rfl
  · exact (word_sh hw).up (bnd0 _)
  · exact ht
theorem bi_sh {w : Str} {t u : Tm} (hw : w ∈ words) (ht : Sh (bnd t.dep) t.e) (hu : Sh (bnd u.dep) u.e) : Sh (bnd (max t.dep u.dep + 1)) (Tm.bi w t u).e := by
  refine sh_tup (b := bnd (max t.dep u.dep)) (k := 3) (fun x hx => ?_) (by simp)
  simp only [List.mem_cons, List.not_mem_nil, or_false] at hx
  rcases hx with rfl | rfl | rfl
  · exact (word_sh hw).up (bnd0 _)
  · exact ht.up (bnd_le (by omega))
  · exact hu.up (bnd_le (by omega))
theorem name_sh {s : Str} (h : NameOk s) : Sh 82 (.str s) := sh_str (k := 8) (fun c hc => by have := h.low c hc; omega) h.l1
theorem Ty.sh {N : Ns} (ok : ∀ n ∈ N, NameOk n.1) : ∀ {t : Tm} {p : Nat}, Ty N t p → Sh (bnd t.dep) t.e
  | _, _, .nm h => name_sh (ok _ h)
  | _, _, .not h => un_sh (by simp [words]) (h.sh ok)
  | _, _, .both h g => bi_sh (by simp [words]) (h.sh ok) (g.sh ok)
  | _, _, .either h g => bi_sh (by simp [words]) (h.sh ok) (g.sh ok)
  | _, _, .chain h g => bi_sh (by simp [words]) (h.sh ok) (g.sh ok)
  | _, _, .turned h => un_sh (by simp [words]) (h.sh ok)
  | _, _, .some h => un_sh (by simp [words]) (h.sh ok)
theorem bnd3 : bnd 3 = 2331 := rfl
theorem nats_sh {r : List Nat} (hl : r.length ≤ 2) (h : ∀ o ∈ r, o < 10) : Sh 11 (nats r) := by
  refine sh_tup (b := 2) (k := 2) (fun x hx => ?_) (by simpa using hl)
  rw [List.mem_map] at hx
  obtain ⟨o, ho, rfl⟩ := hx
  exact sh_nat (h o ho)
theorem row_sh {F : Fd} (h : FdOk F) {l : List At} (hl : l.Sublist F.A) : Sh 190000 (rowE l) := by
  have m1 := h.m1
  have a0 : F.A.length ≤ 40 := h.a0
  have ll := hl.length_le
  refine (sh_tup (b := 4669) (k := 40) (fun x hx => ?_) (by rw [List.length_map]; omega)).up (by omega)
  rw [List.mem_map] at hx
  obtain ⟨a, ha, rfl⟩ := hx
  have ha := hl.subset ha
  obtain ⟨h1, h2⟩ := h.atm ha
  obtain ⟨⟨q, hq⟩, hd⟩ := h.shT.tms _ (h.mem.mp ha).1
  have p12 := hq.p12 h.ns.p12
  have hw := hq.wd h.ns.nd
  refine sh_tup (b := 2331) (k := 2) (fun x hx => ?_) (by simp)
  simp only [List.mem_cons, List.not_mem_nil, or_false] at hx
  rcases hx with rfl | rfl
  · exact (hq.sh h.nok).up (by rw [← bnd3]; exact bnd_le hd)
  · exact (nats_sh (by omega) fun o ho => by have := h2 o ho; omega).up (by omega)
theorem fd_sh {F : Fd} (h : FdOk F) : Sh 30000 F.e := by
  have m1 := h.m1
  have l1 := h.ns.l1
  have s1 := h.s1
  refine (sh_tup (b := 9335) (k := 3) (fun x hx => ?_) (by simp)).up (by omega)
  simp only [List.mem_cons, List.not_mem_nil, or_false] at hx
  rcases hx with rfl | rfl | rfl
  · refine (sh_tup (b := 171) (k := 3) (fun x hx => ?_) (by rw [List.length_map]; omega)).up (by omega)
    rw [List.mem_map] at hx
    obtain ⟨n, hn, rfl⟩ := hx
    refine sh_tup (b := 82) (k := 2) (fun x hx => ?_) (by simp)
    simp only [List.mem_cons, List.not_mem_nil, or_false] at hx
    rcases hx with rfl | rfl
    · exact name_sh (h.nok n hn)
    · exact (sh_nat (by have := (h.ns.ok n hn).2; omega)).up (by omega)
  · refine (sh_tup (b := 2331) (k := 4) (fun x hx => ?_) (by rw [List.length_map]; omega)).up (by omega)
    rw [List.mem_map] at hx
    obtain ⟨t, ht, rfl⟩ := hx
    obtain ⟨q, hq⟩ := h.ty t ht
    exact (hq.sh h.nok).up (by rw [← bnd3]; exact bnd_le (h.dp t ht))
  · exact (sh_nat (by omega)).up (by omega)
theorem plain_tup {ds : List PyData} (h : ∀ d ∈ ds, d.plain = true) : (PyData.tuple ds).plain = true := by
  rw [PyData.plain]
  have := plainAll_map (e := id) (xs := ds) h
  simpa using this
theorem depth_tup {ds : List PyData} {n : Nat} (h : ∀ d ∈ ds, d.depth ≤ n) : (PyData.tuple ds).depth ≤ n + 1 := by
  rw [PyData.depth]
  have := depthAll_map (e := id) (xs := ds) h
  simp only [List.map_id] at this
  exact Nat.succ_le_succ this
theorem row_plain {l : List At} : (rowE l).plain = true := plain_tup fun d hd => by
  rw [List.mem_map] at hd
  obtain ⟨a, _, rfl⟩ := hd
  exact at_plain a
theorem row_depth {F : Fd} (h : FdOk F) {l : List At} (hl : l.Sublist F.A) : (rowE l).depth ≤ 5 := depth_tup fun d hd => by
  rw [List.mem_map] at hd
  obtain ⟨a, ha, rfl⟩ := hd
  exact at_depth (h.atOk (hl.subset ha))
theorem fd_plain {F : Fd} : F.e.plain = true := by
  refine plain_tup fun d hd => ?_
  simp only [List.mem_cons, List.not_mem_nil, or_false] at hd
  rcases hd with rfl | rfl | rfl
  · refine plain_tup fun d hd => ?_
    rw [List.mem_map] at hd
    obtain ⟨n, _, rfl⟩ := hd
    rfl
  · refine plain_tup fun d hd => ?_
    rw [List.mem_map] at hd
    obtain ⟨t, _, rfl⟩ := hd
    exact t.plain
  · rfl
theorem fd_depth {F : Fd} (h : FdOk F) : F.e.depth ≤ 5 := by
  refine depth_tup fun d hd => ?_
  simp only [List.mem_cons, List.not_mem_nil, or_false] at hd
  rcases hd with rfl | rfl | rfl
  · refine Nat.le_trans (depth_tup (n := 1) fun d hd => ?_) (by omega)
    rw [List.mem_map] at hd
    obtain ⟨n, _, rfl⟩ := hd
    exact depth_tup (n := 0) fun d hd => by
      simp only [List.mem_cons, List.not_mem_nil, or_false] at hd
      rcases hd with rfl | rfl <;> simp [PyData.depth, nat]
  · refine depth_tup (n := 3) fun d hd => ?_
    rw [List.mem_map] at hd
    obtain ⟨t, ht, rfl⟩ := hd
    exact Nat.le_trans t.depth (h.dp t ht)
  · simp [PyData.depth, nat]
theorem repr_ok {F : Fd} (h : FdOk F) {l : List At} (hl : l.Sublist F.A) : okRp (.tuple [F.e, rowE l]) = true := by
  have s : Sh 400000 (.tuple [F.e, rowE l]) := by
    refine (sh_tup (b := 190000) (k := 2) (fun x hx => ?_) (by simp)).up (by omega)
    simp only [List.mem_cons, List.not_mem_nil, or_false] at hx
    rcases hx with rfl | rfl
    · exact (fd_sh h).up (by omega)
    · exact row_sh h hl
  have p : (PyData.tuple [F.e, rowE l]).plain = true := plain_tup fun d hd => by
    simp only [List.mem_cons, List.not_mem_nil, or_false] at hd
    rcases hd with rfl | rfl
    · exact fd_plain
    · exact row_plain
  have d : (PyData.tuple [F.e, rowE l]).depth ≤ 6 := depth_tup fun d hd => by
    simp only [List.mem_cons, List.not_mem_nil, or_false] at hd
    rcases hd with rfl | rfl
    · exact fd_depth h
    · exact row_depth h hl
  have sl := s.len
  unfold okRp
  rw [p, s.ok, decide_eq_true (show (PyData.tuple [F.e, rowE l]).depth ≤ 64 by omega), decide_eq_true (show (PyData.tuple [F.e, rowE l]).shown.length ≤ sizeLine by rw [lineE]; omega)]
  rfl
end Mz

set_option Elab.async false
set_option linter.all false
set_option maxRecDepth 100000
set_option maxHeartbeats 2000000
set_option autoImplicit false
namespace Mz
open PySem L2 PySem.Spec PD PyProof.Rows PySem.W Mi
theorem some_g_ok {n : Nat} {p : PyData} {xs : List At} {s : Int} (hp : Pool n p) (hn : n + xs.length < 900000) (s0 : 0 < s) (s1 : s < 100) : WpF (m__law_some [p, .list (xs.map atE), .int s]) fun d ps => ∃ (ys : List At) (p' : PyData), d = .list (ys.map atE) ∧ ps = [p', .list (xs.map atE), .int s] ∧ ys.Sublist xs ∧ Pool (n + xs.length) p' := by
  unfold m__law_some
  refine wpf_run rfl ?_
  unfold den__law_some
  walk_at "wp"
  refine wp_lcI (e := atE) (xs := xs) (fun pre acc ρ => ∃ (q : PyData) (ys : List At), ρ = [some q, some (.list (xs.map atE)), some (.int s), none] ∧ acc = ys.map atE ∧ ys.Sublist pre ∧ Pool (n + pre.length) q) ⟨p, [], rfl, rfl, .slnil, hp.up (by simp)⟩ (fun pre x post acc ρ hx hI => ?_) fun acc ρ hI => ?_
  · obtain ⟨q, ys, rfl, rfl, hs, hq⟩ := hI
    have hk := congrArg List.length hx
    rw [List.length_append, List.length_cons] at hk
    walk_at "wp"
    refine take_k hq (by omega) (by omega) (by omega) fun k p1 k0 k1 hp1 => ?_
    walk_at "wp"
    refine ⟨fun _ => ⟨[some p1, some (.list (xs.map atE)), some (.int s), none], rfl, p1, ys ++ [x], rfl, by rw [List.map_append]; rfl, hs.append (List.Sublist.refl _), hp1.up (by simp; omega)⟩, fun _ => ⟨[some p1, some (.list (xs.map atE)), some (.int s), none], rfl, p1, ys, rfl, rfl, hs.trans (List.sublist_append_left _ _), hp1.up (by simp; omega)⟩⟩
  · obtain ⟨q, ys, rfl, rfl, hs, hq⟩ := hI
    have := hs.length_le
    refine ⟨by rw [List.length_map, lineE]; omega, ⟨rfl, fun i hi => by rw [List.mem_singleton] at hi; subst hi; rfl⟩, ?_⟩
    walk_at "wp"
    exact ⟨ys, q, rfl, rfl, hs, hq⟩
theorem shown_sub {F : Fd} (h : FdOk F) (b : Bool) : (F.atoms b).Sublist F.A := by
  cases b with
  | false => exact List.Sublist.refl _
  | true =>
    have e : rowBy F.A (F.atoms true) = F.atoms true := rise_eq (lt := fun a b => dataLt (akE (akOf a)) (akE (akOf b)) = true) (fun a b h => lt_asym h) (h.rise.sublist rowBy_sub) h.rise fun x => by
      rw [rowBy_mem]
      exact ⟨fun q => q.2, fun q => ⟨h.sub q, q⟩⟩
    rw [← e]
    exact rowBy_sub
theorem any_row_ok {n : Nat} {p : PyData} {F : Fd} (h : FdOk F) (hp : Pool n p) (hn : n < 100000) (b : Bool) : WpF (m__law_any_row [p, F.e, .int (if b then 1 else 0)]) fun d ps => ∃ (l : List At) (p' : PyData), d = rowE l ∧ ps = [p', F.e, .int (if b then 1 else 0)] ∧ l.Sublist F.A ∧ Pool (n + 50) p' := by
  have sb := shown_sub h b
  have a0 : F.A.length ≤ 40 := h.a0
  have sl := sb.length_le
  unfold m__law_any_row
  refine wpf_run rfl ?_
  unfold den__law_any_row
  walk_at "wp"
  rw [l_atoms_ok h.shT h.m1 b]
  walk_at "wp"
  refine take_k hp (by omega) (by omega) (by omega) fun k p1 k0 k1 hp1 => ?_
  walk_at "wp"
  refine wpo_at (xs := [PyData.int 1, .int 2, .int 2, .int 3, .int 6]) k0 (by simpa using k1) fun d hd _ => ?_
  have hs : ∃ s : Int, d = .int s ∧ 0 < s ∧ s < 100 := by
    simp only [List.mem_cons, List.not_mem_nil, or_false] at hd
    rcases hd with rfl | rfl | rfl | rfl | rfl
    · exact ⟨1, rfl, by omega, by omega⟩
    · exact ⟨2, rfl, by omega, by omega⟩
    · exact ⟨2, rfl, by omega, by omega⟩
    · exact ⟨3, rfl, by omega, by omega⟩
    · exact ⟨6, rfl, by omega, by omega⟩
  obtain ⟨s, rfl, s0, s1⟩ := hs
  walk_at "wp"
  refine (some_g_ok hp1 (by omega) s0 s1).imp ?_
  rintro _ _ ⟨ys, p2, rfl, rfl, hy, hp2⟩
  walk_at "wp"
  refine Bt.dec (fun _ => ?_) fun _ => ?_
  · walk_at "wp"
    exact ⟨ys, p2, rfl, rfl, hy.trans sb, hp2.up (by omega)⟩
  · walk_at "wp"
    refine take_k hp2 (by omega) (by omega) (by omega) fun j p3 j0 j1 hp3 => ?_
    walk_at "wp"
    refine Bt.dec (fun _ => ?_) fun _ => ?_
    · walk_at "wp"
      exact ⟨ys, p3, rfl, rfl, hy.trans sb, hp3.up (by omega)⟩
    · walk_at "wp"
      exact ⟨[], p3, rfl, rfl, by simp, hp3.up (by omega)⟩
/-! cells -/
theorem pick_map {α β : Type} (f : α → β) (xs : List α) (lo hi st : Option Int) : pick (xs.map f) lo hi st = (pick xs lo hi st).map f := by
  unfold pick
  rw [List.length_map, List.map_filterMap]
  congr 1
  funext i
  rw [List.getElem?_map]
theorem folded_ok {xs : List Int} {top : Nat} (t0 : 1 ≤ top) (t1 : top ≤ 100) : WpF (m__law_folded [.list (xs.map PyData.int), nat top]) fun d ps => ∃ cs : List Int, d = .list (cs.map PyData.int) ∧ 1 ≤ cs.length ∧ cs.length ≤ top := by
  unfold m__law_folded
  refine wpf_run rfl ?_
  unfold den__law_folded
  simp only [nat_e]
  walk_at "wp"
  rw [List.length_map]
  have hr : ∃ r : Nat, 1 ≤ r ∧ r ≤ top ∧ (if (if ((xs.length : Nat) : Int) < (top : Int) then ((xs.length : Nat) : Int) else (top : Int)) > 1 then (if ((xs.length : Nat) : Int) < (top : Int) then ((xs.length : Nat) : Int) else (top : Int)) else 1) = (r : Int) := by
    by_cases h1 : xs.length < top
    · by_cases h2 : xs.length > 1
      · refine ⟨xs.length, by omega, by omega, ?_⟩
        rw [if_pos (show ((xs.length : Nat) : Int) < (top : Int) by omega), if_pos (by omega)]
      · refine ⟨1, by omega, by omega, ?_⟩
        rw [if_pos (show ((xs.length : Nat) : Int) < (top : Int) by omega), if_neg (by omega)]; rfl
    · by_cases h2 : top > 1
      · refine ⟨top, by omega, by omega, ?_⟩
        rw [if_neg (show ¬ ((xs.length : Nat) : Int) < (top : Int) by omega), if_pos (by omega)]
      · refine ⟨1, by omega, by omega, ?_⟩
        rw [if_neg (show ¬ ((xs.length : Nat) : Int) < (top : Int) by omega), if_neg (by omega)]; rfl
  obtain ⟨r, r0, r1, hr⟩ := hr
  rw [hr, rng_eq]
  refine ⟨by omega, ?_⟩
  refine wp_lcM (e := nat) (fun k => .int (pick xs (some (k : Int)) (some 63) (some (top : Int))).sum) (fun k hk => ?_) (by rw [List.length_range, lineE]; omega) ?_
  · simp only [nat_e]
    walk_at "wp"
    refine ⟨fun e => by have := Option.some.inj e; omega, ?_⟩
    rw [pick_map, show ((pick xs (some (k : Int)) (some 63) (some (top : Int))).map PyData.int) = ((pick xs (some (k : Int)) (some 63) (some (top : Int))).map fun x => PyData.int (id x)) from rfl, wpo_sum]
    simp [wipeE]
  · try walk_at "wp"
    refine ⟨(List.range r).map fun k => (pick xs (some ((k : Nat) : Int)) (some 63) (some (top : Int))).sum, by rw [List.map_map]; rfl, by simp; omega, by simp; omega⟩
theorem pool_ok {cs : List Int} {k : Nat} (hk : k < 100) : WpF (m__law_pool [.list (cs.map PyData.int), nat k]) fun d ps => Pool (7919 * k + 1) d := by
  unfold m__law_pool
  refine wpf_run rfl ?_
  unfold den__law_pool
  simp only [nat_e]
  walk_at "wp"
  rw [List.length_map]
  have fin : ∀ c : Int, CPow 10 18 ∧ (0 : Int) < 1000000007 ∧ CMul 7919 (k : Int) ∧ Pool (7919 * k + 1) (.list [.int (if c - 10 ^ (18 : Int).toNat > 0 then c - 10 ^ (18 : Int).toNat else 0), .int (c % 1000000007), .int (7919 * (k : Int) + 1)]) := fun c => by
    refine ⟨⟨by omega, by omega, by omega⟩, by omega, .inl ⟨by omega, by omega⟩, ⟨_, _, _, rfl, ?_, Int.emod_nonneg _ (by omega), Int.emod_lt_of_pos _ (by omega), by omega, by omega⟩⟩
    split <;> omega
  refine Bt.dec (fun hl => ?_) fun hl => ?_
  · walk_at "wp"
    refine wpo_at (by omega) (by rw [List.length_map]; omega) fun d hd _ => ?_
    rw [List.mem_map] at hd
    obtain ⟨c, _, rfl⟩ := hd
    obtain ⟨f1, f2, f3, f4⟩ := fin c
    walk_at "wp"
    exact ⟨f1, f3, f4⟩
  · obtain ⟨f1, f2, f3, f4⟩ := fin 0
    walk_at "wp"
    exact ⟨f1, f3, f4⟩
end Mz

set_option Elab.async false
set_option linter.all false
set_option maxRecDepth 100000
set_option maxHeartbeats 2000000
set_option autoImplicit false
namespace Mz
open PySem L2 PySem.Spec PD PyProof.Rows PySem.W Mi
@[irreducible] def law_rows : DenS :=
    dFor (dItems (dTake 5)) (tName 6) (dSeq (dSet 7 (d1 gRepr (dTup (dCons (dVar 4) (dCons (dVar 6) dNil)))))
    (dSeq (dSet 8 (dCall m__law_due_kinds (dCons (dVar 4) (dCons (dVar 6) dNil))))
    (dSeq (dFor (dItems (dLst (dCons (dVar 6) (dCons (dOp gIx (dVar 8) (dNeg (dC (.int 1)))) dNil)))) (tName 9) (dIfS (dOr (dNot (dB (dCall (m__law_same 12) (dCons (dCall m_kinds_of (dCons (dVar 4) (dCons (dVar 9) dNil))) (dCons (dVar 8) dNil))))) (dNot (dB (dCall (m__law_same 12) (dCons (dCall m_least_row (dCons (dVar 4) (dCons (dVar 9) dNil))) (dCons (dOp gIx (dVar 8) (dC (.int 0))) dNil))))))
    (dRet (dC (.bool false)))
    dSkip))
    (dIfS (dB (dOp gNe (d1 gRepr (dTup (dCons (dVar 4) (dCons (dVar 6) dNil)))) (dVar 7)))
    (dRet (dC (.bool false)))
    dSkip))))
theorem law_split : den_law =
    (dSeq (dSet 1 (dCall m__law_folded (dCons (dVar 0) (dCons (dC (.int 6)) dNil))))
    (dSeq (dFor (dRng1 (d1 gLen (dVar 1))) (tName 2) (dSeq (dSetO 3 (dCall m__law_pool (dCons (dVar 1) (dCons (dVar 2) dNil))))
    (dSeq (dSet 4 (dCallP m__law_field 3 (dCons (dC (.int 10)) dNil)))
    (dSeq (dSetO 5 (dLst (dCons (dTup dNil) (dCons (dCallP m__law_any_row 3 (dCons (dVar 4) (dCons (dC (.int 0)) dNil))) (dCons (dCallP m__law_any_row 3 (dCons (dVar 4) (dCons (dC (.int 1)) dNil))) (dCons (dCallP m__law_any_row 3 (dCons (dVar 4) (dCons (dC (.int 1)) dNil))) dNil))))))
    (dSeq (dApp 5 (dCall m__law_even (dCons (dVar 4) (dCons (dSl (dOpO gIx 5 (dC (.int 2))) dNo (dSo (dC (.int 1)))) dNil))))
    law_rows)))))
    (dRet (dC (.bool true))))) := by unfold law_rows; rfl
theorem wpo_repr {d : PyData} (h : okRp d = true) {K : PyData → Prop} : WpO (gRepr d) K = K (.str d.shown) := by
  unfold gRepr
  rw [if_pos h, wpo_some]
theorem kinds_head {F : Fd} {l : List At} : ∃ rs, F.kinds l = (F.kinds l).head! :: rs := by
  cases e : F.kinds l with
  | nil => exact absurd e (kinds_ne l)
  | cons r rs => exact ⟨rs, rfl⟩
theorem row_turn {F : Fd} (h : FdOk F) {l r : List At} (hk : F.kinds r = F.kinds l) (hr : r.Sublist F.A) :
    m_kinds_of [F.e, rowE r] = .ok (.tuple ((F.kinds l).map rowE)) [F.e, rowE r] ∧ m_least_row [F.e, rowE r] = .ok (rowE (F.kinds l).head!) [F.e, rowE r] := by
  rw [kinds_of_ok h hr, least_row_ok h hr, hk]; exact ⟨rfl, rfl⟩
theorem law_rows_ok {F : Fd} (h : FdOk F) {rs : List (List At)} (hrs : ∀ l ∈ rs, l.Sublist F.A) {d0 d1 d2 d3 o6 o7 o8 o9 : Option PyData} : Wp (law_rows [d0, d1, d2, d3, some F.e, some (.list (rs.map rowE)), o6, o7, o8, o9]) fun fl ρ => fl = .nx ∧ ∃ o6 o7 o8 o9, ρ = [d0, d1, d2, d3, some F.e, none, o6, o7, o8, o9] := by
  unfold law_rows
  walk_at "wp"
  refine wp_for (e := rowE) (xs := rs) (fun pre ρ => ∃ o6 o7 o8 o9, ρ = [d0, d1, d2, d3, some F.e, none, o6, o7, o8, o9]) ⟨_, _, _, _, rfl⟩ (fun pre l post ρ hx hI => ?_) fun ρ hI => ?_
  · obtain ⟨o6, o7, o8, o9, rfl⟩ := hI
    have hl := hrs l (by rw [hx]; simp)
    have hm : ∀ a ∈ l, a ∈ F.A := fun a ha => hl.subset ha
    have rp := repr_ok h hl
    walk_at "wp"
    rw [wpo_repr rp]
    walk_at "wp"
    rw [due_ok h hl]
    walk_at "wp"
    have ne := kinds_ne (F := F) l
    have ez : ∃ ks z, F.kinds l = ks ++ [z] := ⟨_, _, (List.dropLast_concat_getLast ne).symm⟩
    obtain ⟨ks, z, ez⟩ := ez
    have el : (F.kinds l).map rowE = ks.map rowE ++ [rowE z] := by rw [ez, List.map_append]; rfl
    have hz : z ∈ F.kinds l := by rw [ez]; simp
    obtain ⟨q, hq, hzq⟩ := kinds_mem.mp hz
    have hzk : F.kinds z = F.kinds l := by rw [← hzq]; exact h.kinds_rr hm hq
    obtain ⟨t1, t2⟩ := row_turn h rfl hl
    obtain ⟨t3, t4⟩ := row_turn h hzk (kinds_sub hz)
    obtain ⟨rest, eh⟩ := kinds_head (F := F) (l := l)
    have eh2 : (F.kinds l).map rowE = rowE (F.kinds l).head! :: rest.map rowE := by
      conv => lhs; rw [eh]
      rfl
    have at0 : ∀ K : PyData → Prop, WpO (atI ((F.kinds l).map rowE) 0) K = K (rowE (F.kinds l).head!) := fun K => by rw [eh2, at_0, wpo_some]
    have atz : ∀ K : PyData → Prop, WpO (atI ((F.kinds l).map rowE) (-1)) K = K (rowE z) := fun K => by rw [el, at_last, wpo_some]
    have hh : (F.kinds l).head! ∈ F.kinds l := by
      cases e : F.kinds l with
      | nil => exact absurd e ne
      | cons r rs => exact (show r ∈ r :: rs by simp)
    have s1 : m__law_same 12 [.tuple ((F.kinds l).map rowE), .tuple ((F.kinds l).map rowE)] = .ok (.bool true) _ := same_ok 11 _ ((sm_kinds h (l := l)).up (by omega))
    have s2 : m__law_same 12 [rowE (F.kinds l).head!, rowE (F.kinds l).head!] = .ok (.bool true) _ := same_ok 11 _ ((sm_row h (kinds_sub hh)).up (by omega : 5 ≤ 11))
    rw [atz]
    walk_at "wp"
    rw [t1]
    walk_at "wp"
    rw [s1]
    walk_at "wp"
    rw [t2]
    walk_at "wp"
    rw [at0]
    walk_at "wp"
    rw [s2]
    walk_at "wp"
    rw [t3]
    walk_at "wp"
    rw [s1]
    walk_at "wp"
    rw [t4]
    walk_at "wp"
    rw [at0]
    walk_at "wp"
    rw [s2]
    walk_at "wp"
    rw [wpo_repr rp]
    walk_at "wp"
    exact ⟨_, _, _, _, rfl⟩
  · obtain ⟨o6, o7, o8, o9, rfl⟩ := hI
    exact ⟨rfl, _, _, _, _, rfl⟩
theorem law_ok (xs : List Int) : m_law [.list (xs.map PyData.int)] = .ok (.bool true) [.list (xs.map PyData.int)] := by
  refine WpF.eq ?_
  unfold m_law
  refine wpf_run rfl ?_
  rw [law_split]
  walk_at "wp"
  refine (folded_ok (xs := xs) (top := 6) (by omega) (by omega)).imp ?_
  rintro _ ps ⟨cs, rfl, c0, c1⟩
  walk_at "wp"
  rw [List.length_map, rng_eq]
  refine ⟨by omega, ?_⟩
  refine wp_for (e := nat) (xs := List.range cs.length) (fun pre ρ => ∃ o2 o3 o4 o5 o6 o7 o8 o9, ρ = [some (.list (xs.map PyData.int)), some (.list (cs.map PyData.int)), o2, o3, o4, o5, o6, o7, o8, o9]) ⟨_, _, _, _, _, _, _, _, rfl⟩ (fun pre k post ρ hx hI => ?_) fun ρ hI => ?_
  · obtain ⟨o2, o3, o4, o5, o6, o7, o8, o9, rfl⟩ := hI
    have hk : k < cs.length := by
      rw [← List.mem_range, hx]; simp
    walk_at "wp"
    refine (pool_ok (cs := cs) (k := k) (by omega)).imp ?_
    intro d ps hp
    have hmut : isMut d = true := by
      obtain ⟨a, b, c, rfl, _⟩ := hp.ex
      rfl
    refine ⟨hmut, ?_⟩
    walk_at "wp"
    refine (field_g_ok (top := 10) hp (by omega) (by omega) (by omega)).imp ?_
    rintro _ _ ⟨F, p1, rfl, rfl, h, _, hp1⟩
    walk_at "wp"
    refine (any_row_ok h hp1 (by omega) false).imp ?_
    rintro _ _ ⟨l1, p2, rfl, rfl, hl1, hp2⟩
    walk_at "wp"
    refine (any_row_ok h hp2 (by omega) true).imp ?_
    rintro _ _ ⟨l2, p3, rfl, rfl, hl2, hp3⟩
    walk_at "wp"
    refine (any_row_ok h hp3 (by omega) true).imp ?_
    rintro _ _ ⟨l3, p4, rfl, rfl, hl3, hp4⟩
    walk_at "wp"
    have ec : PD.cutD (l2.map atE) none (some 1) = (l2.take 1).map atE := by
      unfold PD.cutD
      rw [HT.sIx_none, show (some (1 : Int)) = some ((1 : Nat) : Int) from rfl, HT.sIx_nat, List.drop_zero, Nat.sub_zero, List.length_map, List.map_take, List.take_eq_take_iff]
      simp
    rw [ec]
    have hl2' : (l2.take 1).Sublist F.A := (List.take_sublist _ _).trans hl2
    refine (even_ok h hl2').imp ?_
    rintro _ _ ⟨r, rfl, hr⟩
    walk_at "wp"
    refine (law_rows_ok h (rs := [[], l1, l2, l3, r]) (fun l hl => ?_)).imp ?_
    · simp only [List.mem_cons, List.not_mem_nil, or_false] at hl
      rcases hl with rfl | rfl | rfl | rfl | rfl
      · simp
      · exact hl1
      · exact hl2
      · exact hl3
      · exact hr
    · rintro fl ρ ⟨rfl, a6, a7, a8, a9, rfl⟩
      rw [turn_nx]
      exact ⟨_, _, _, _, _, _, _, _, rfl⟩
  · obtain ⟨o2, o3, o4, o5, o6, o7, o8, o9, rfl⟩ := hI
    walk_at "wp"
end Mz

set_option Elab.async false
set_option linter.all false
set_option maxRecDepth 100000
set_option maxHeartbeats 2000000
set_option autoImplicit false
namespace PD
open PySem L2 PySem.Spec PyProof.Rows

/-! ### what is known of the heap, its lists out of it -/
def notList (o : Obj) : Bool := match o.cls with
  | .type c => !(c == "list")
  | _ => true
def noL (K : PySem.W.Frag) : PySem.W.Frag := K.filter fun p => match K.lookup p.1 with
  | some o => notList o
  | none => false
theorem noL_at {K : PySem.W.Frag} {a : Addr} {o : Obj} (h : (noL K).lookup a = some o) : K.lookup a = some o ∧ notList o = true := by
  unfold noL at h
  have key : ∀ (L : PySem.W.Frag) (q : Addr → Bool), (L.filter fun p => q p.1).lookup a = if q a = true then L.lookup a else none := by
    intro L q
    induction L with
    | nil => simp
    | cons p L ih =>
      obtain ⟨b, ob⟩ := p
      rw [List.filter_cons]
      by_cases hb : a = b
      · subst hb
        by_cases hq : q a = true
        · simp [hq]
        · have hq' : q a = false := by simpa using hq
          simp only [hq', Bool.false_eq_true, if_false]
          rw [ih, hq']; simp
      · have hn : (a == b) = false := by simpa using hb
        by_cases hq : q b = true
        · simp only [hq, if_true, List.lookup_cons, hn]
          exact ih
        · have hq' : q b = false := by simpa using hq
          simp only [hq', Bool.false_eq_true, if_false, List.lookup_cons, hn]
          exact ih
  rw [key K fun a => match K.lookup a with | some o => notList o | none => false] at h
  cases e : K.lookup a with
  | none => rw [e] at h; simp at h
  | some u =>
    rw [e] at h
    by_cases hu : notList u = true
    · rw [if_pos hu] at h
      cases h
      exact ⟨rfl, hu⟩
    · rw [if_neg hu] at h; cases h
theorem noL_in {K : PySem.W.Frag} {h : Heap} (X : K.In h) : (noL K).In h := fun a o e => X a o (noL_at e).1
/-- a list is not in it -/
theorem noL_list {K : PySem.W.Frag} {h : Heap} (X : K.In h) {a : Addr} {d : Data} (ha : h.get? a = some { cls := .type "list", data := d }) : (noL K).lookup a = none := by
  cases e : (noL K).lookup a with
  | none => rfl
  | some o =>
    obtain ⟨h1, h2⟩ := noL_at e
    have h3 := X a o h1
    rw [ha] at h3
    cases h3
    exact absurd h2 (by intro z; cases z)
/-! ### the call of the law -/
theorem rep_ints {T : Kt} {H : Hp} : ∀ ns : List Int, RepAll T H (ns.map PyData.int) (ns.map V.int)
  | [] => .nil
  | n :: ns => .cons (.int n) (rep_ints ns)
theorem law_callD {P : Program} {w : World} {K : PySem.W.Frag} {mg mb : Str → Option Value} {k : Nat} {fa a : Addr} {kk : Kd} {Fm : FDen} {s₁ : Shared} {vs : List Value} {ns : List Int} {ps : List PyData} {nm : Str}
    (KX : K.In s₁.heap) (hns : s₁.heap.Ns mainGlobals mg) (hb : s₁.heap.Ns builtinsNs mb) (hbb : ∀ x : Str, x ≠ "__name__" → mb x = bootBuiltins x) (hlim : s₁.heap.NoLimit) (hg : s₁.gens = #[])
    (ha : s₁.heap.get? a = some { cls := .type "list", data := .seq vs.toArray }) (hi : IntsAre vs ns) (hl : ns.length ≤ sizeLine) (hr : Room k callerA) (hka : K.lookup a = none)
    (hfa : mg nm = some (.ref fa)) (F : ∀ base : Heap, K.In base → base.Ns mainGlobals mg → FnX P w K mg base k nm [.sh] kk Fm) (hF : Fm [.list (ns.map PyData.int)] = .ok (.bool true) ps) :
    codeAny (model P w) callerA (.call (.ref fa) ⟨[.ref a], []⟩) (fun r s' => r = .ok (.ret (.bool true)) ∧ OldK s₁.heap s'.heap ∧ s'.os = s₁.os ∧ AllBare s'.gens) s₁ := by
  have rv := vals_ints hi
  have lenV := hi.length
  let H : Hp := fun b => if b = a then some (.frz { cls := .type "list", data := .seq vs.toArray } (.lst (ns.map V.int))) else none
  have Ha : H a = some (.frz { cls := .type "list", data := .seq vs.toArray } (.lst (ns.map V.int))) := if_pos rfl
  have Hn : ∀ b, b ≠ a → H b = none := fun b hb => if_neg hb
  have hok : HOk P w H s₁.heap := fun b u z => by
    by_cases hb : b = a
    · subst hb
      rw [Ha] at z
      cases z
      exact ⟨ha, by rw [List.length_map]; exact hl, vs, _, rv, ha⟩
    · rw [Hn b hb] at z; cases z
  have base_of : ∀ {b : Addr} {o : Obj}, s₁.heap.get? b = some o → H b = none → (hidT s₁.heap H).get? b = some o := fun e n => hidT_get e n
  have noA : ∀ {b : Addr} {o : Obj} {es : Array DictEntry} {ep : Nat}, s₁.heap.get? b = some o → o.data = .dict es ep → H b = none := fun {b o es ep} e d => by
    by_cases hb : b = a
    · subst hb
      rw [ha] at e; cases e
      have d' : Data.seq vs.toArray _ = Data.dict es ep := d
      cases d'
    · exact Hn b hb
  have nsK : ∀ {b : Addr} {m : Str → Option Value}, s₁.heap.Ns b m → (hidT s₁.heap H).Ns b m := fun {b m} ⟨o, es, ep, e, d, r⟩ => ⟨o, es, ep, base_of e (noA e d), d, r⟩
  have hKb : K.In (hidT s₁.heap H) := fun b o e => base_of (KX b o e) (by
    by_cases hb : b = a
    · subst hb; rw [hka] at e; cases e
    · exact Hn b hb)
  have hM : L2.Mod K mg (hidT s₁.heap H) := ⟨hKb, nsK hns, ⟨mb, nsK hb, hbb⟩, let ⟨mc, h1, h2⟩ := hlim; ⟨mc, nsK h1, h2⟩⟩
  have e0 : Env0 P w K mg (hidT s₁.heap H) callerA [] s₁ H := ⟨rfl, hM, fun b o e => of_hidT e, Nat.le_of_eq (hidT_size _ _), trivial, fun b hb => absurd (show b ∈ ([] : List Addr) from hb) (by simp), hok, .of_eq hg⟩
  obtain ⟨f, fd, pars, h1, h2, h3, h4⟩ := (F _ hKb (nsK hns)).ex
  rw [hfa] at h1
  cases h1
  have hpl : pars.length = 1 := h4.len.symm
  have hbind := h3 s₁ [.ref a] KX (by simp [hpl])
  rw [List.append_nil] at hbind
  have hsp : spD ⟨K, P, w⟩ mg kk [.sh] Fm [.ref a] H (fun v _ => v = .bl true) (fun _ _ _ => False) := by
    refine ⟨[.list (ns.map PyData.int)], fun _ => none, H, rfl, ?_, rfl, ?_⟩
    · refine ⟨fun b o z => (by cases z), Sub.rfl', Nat.le_refl _, Nat.le_refl _, fun i d m hd hm => ?_, fun i j b oi _ => ?_, fun b o z => (by cases z)⟩
      · cases i with
        | succ i => simp at hd
        | zero =>
          simp at hd hm
          subst hd hm
          exact ⟨.ref a, rfl, .lst (.inr ⟨_, Ha⟩) (rep_ints ns)⟩
      · obtain ⟨m, d, e1, e2, _⟩ := oi
        cases i with
        | zero => simp at e1; subst e1; cases e2
        | succ i => simp at e1
    · rw [hF]
      intro F' H' v s' S' rk
      have r : Rep ⟨K, P, w⟩ F' (.bool true) v := by
        cases kk with
        | fr => exact rk.1 rfl
        | sh => exact rk
        | ow => exact Brw.scal rk rfl
      cases r; rfl
  refine codeAny_mono (h4.run callerA [] s₁ H ⟨[.ref a], []⟩ [.ref a] [.ref a] _ _ hr rfl e0 hbind (.cons rfl .nil) hsp) fun r s' h => ?_
  cases r with
  | error e => obtain ⟨_, _, _, _, _, _, _, _, _, _, _, _, z⟩ := h; exact z.elim
  | ok fl =>
    cases fl with
    | next => exact False.elim h
    | brk => exact False.elim h
    | cont => exact False.elim h
    | ret u =>
      obtain ⟨v, H', os, bare, un, hok', r', q⟩ := h
      have q' : v = .bl true := q
      subst q'
      obtain rfl : u = Value.bool true := r'
      refine ⟨rfl, OldK.of_keep fun b o e => ?_, os, bare⟩
      by_cases hb : b = a
      · subst hb
        have z2 := un.frzs b _ _ Ha
        obtain ⟨e2, _⟩ := hok' b _ z2
        rw [ha] at e; cases e
        exact e2
      · exact un.keep b o e (Hn b hb) (by intro z; exact absurd (show b ∈ ([] : List Addr) from z) (by simp)) (by simp)
/-- the walk of a law by its mirror -/
theorem walk_ofD {l : PySem.W.OpenLaw} {n k : Nat} {q : Program} {loose : List Str} {XP : (Str → Option Value) → Heap → Prop} {YP : World → Heap → Prop} {d : DefRec} {kk : Kd} {Fm : FDen}
    (hn : l.most = some n) (hn2 : n ≤ sizeLine) (hdf : d.params.defaults = []) (hr : Room k callerA)
    (F : ∀ (w : World) (mg : Str → Option Value) (h : Heap), YP w h → h.Ns mainGlobals mg →
      ∃ K : PySem.W.Frag, K.In h ∧ (∀ a o, K.lookup a = some o → notList o = true) ∧ ∀ base : Heap, K.In base → base.Ns mainGlobals mg → FnX l.prog w K mg base k d.name [.sh] kk Fm)
    (hF : ∀ ns : List Int, ∃ ps, Fm [.list (ns.map PyData.int)] = .ok (.bool true) ps) :
    PySem.W.WalkO q loose XP YP l.row.toRowW d [] (fun f vs => PySem.call f vs) := by
  refine Att.attach_call hn hdf fun w s₀ s₁ mg mb fa o pm cd doc a vs ns G Y ho hd hcd hmg hobj hints hlen hg => ?_
  obtain ⟨K, KX, hnl, hFn⟩ := F w mg _ Y G.T.g
  obtain ⟨ps, hps⟩ := hF ns
  have hka : K.lookup a = none := by
    cases e : K.lookup a with
    | none => rfl
    | some o =>
      have h3 := KX a o e
      rw [hobj] at h3
      cases h3
      exact absurd (hnl a _ e) (by intro z; cases z)
  exact law_callD KX G.T.g G.T.b G.T.builtins G.T.nolimit hg hobj hints (Nat.le_trans hlen hn2) hr hka hmg hFn hps
/-! ### the head's Hook -/
def tupK (K : PySem.W.Frag) (x : Str) (ds : List Str) : Bool := match K.lookup (He.ga K x) with
  | some ⟨.type c, none, .seq its _, _⟩ => decide (c = "tuple") && (decide (its.size ≤ sizeLine) && He.relAll (ds.map V.str) its.toList)
  | _ => false
def dicK (K : PySem.W.Frag) (x : Str) (kvs : List (Str × Int)) : Bool := match K.lookup (He.ga K x) with
  | some ⟨_, _, .dict es _, _⟩ => diB es.toList kvs
  | _ => false
theorem tupK_ok {K : PySem.W.Frag} {x : Str} {ds : List Str} {mg : Str → Option Value} (hm : mg x = some (.ref (He.ga K x))) (h : tupK K x ds = true) : TuC K mg x ds := by
  unfold tupK at h
  cases q : K.lookup (He.ga K x) with
  | none => rw [q] at h; cases h
  | some o =>
    obtain ⟨oc, od, dt, osl⟩ := o
    rw [q] at h
    cases oc with
    | type c =>
      cases od with
      | none =>
        cases dt with
        | seq its n =>
          obtain ⟨h1, h2⟩ := He.ba (show (decide (c = "tuple") && (decide (its.size ≤ sizeLine) && He.relAll (ds.map V.str) its.toList)) = true from h)
          obtain ⟨h3, h4⟩ := He.ba h2
          exact ⟨_, hm, fun H => .inr ⟨_, its, n, q, congrArg Value.type (of_decide_eq_true h1), rfl, rfl, of_decide_eq_true h3, He.relAll_ok h4⟩⟩
        | _ => cases h
      | some b => cases dt <;> cases h
    | _ => cases od <;> cases dt <;> cases h
theorem dicK_ok {K : PySem.W.Frag} {w : World} {x : Str} {kvs : List (Str × Int)} {mg : Str → Option Value} (hm : mg x = some (.ref (He.ga K x))) (D : ∃ es n, KDict K w (He.ga K x) es n) (h : dicK K x kvs = true) : DiC K w mg x kvs := by
  obtain ⟨es, n, D⟩ := D
  unfold dicK at h
  rw [D.at_] at h
  exact ⟨_, es, n, hm, D, h⟩
theorem def_of {K : PySem.W.Frag} {mg : Str → Option Value} {x : Str} {st : Stmt} (hm : mg x = some (.ref (He.ga K x))) (F : ∃ fd, FunD K x x (defArgs st) (defBody st) (defScope st) [] [] (He.ga K x) fd) : Def K mg x st := by
  obtain ⟨fd, F⟩ := F
  obtain ⟨oc, od, dV, kV, doc, pm, an, cdv, ct, osl, e, h1, h2, h3, h4⟩ := F.ex
  have hd : dV = .none := by
    rcases h3 with h | h
    · exact h.2
    · exact absurd rfl h.1
  subst hd
  exact ⟨_, fd, ⟨⟨oc, od, kV, doc, pm, an, cdv, ct, osl, e, h1, h2⟩, F.kp⟩, hm⟩
abbrev AlU : Type := He.AlT × Bool
def obsU (fa : List He.Fa) (fn : List He.DefD) (ts : List He.Tab) (bs : List (PySem.W.Frag → Bool)) (K : PySem.W.Frag) : AlU := (He.obsT fa fn ts K, bs.all fun b => b K)
def valU (fn : List He.DefD) (ts : List He.Tab) (w : World) : AlU := (He.valT fn ts w, true)
def obsUG (n : Nat) (fa : List He.Fa) (fn : List He.DefD) (ts : List He.Tab) (bs : List (PySem.W.Frag → Bool)) (g : Addr → Option Obj) : AlU := obsU fa fn ts bs (noL (He.frG g (He.asD g n)))
def SaysU (fa : List He.Fa) (fn : List He.DefD) (ts : List He.Tab) (bs : List (PySem.W.Frag → Bool)) (w : World) (K : PySem.W.Frag) : Prop := obsU fa fn ts bs K = valU fn ts w
def hookU (n : Nat) (fa : List He.Fa) (fn : List He.DefD) (ts : List He.Tab) (bs : List (PySem.W.Frag → Bool)) : PySem.W.Hook where
  α := AlU
  obs := fun s => obsUG n fa fn ts bs s.heap.get?
  val := fun w => valU fn ts w
  says := fun w h => ∃ K : PySem.W.Frag, K.In h ∧ (∀ a o, K.lookup a = some o → notList o = true) ∧ SaysU fa fn ts bs w K
  of := fun _ _ e => ⟨_, noL_in He.frG_in, fun _ _ h => (noL_at h).2, e⟩
  keeps := fun _ _ _ ⟨K, hK, hn, c⟩ k => ⟨K, PySem.W.Frag.In.keeps hK k, hn, c⟩
theorem obsUG_eq {n : Nat} {fa : List He.Fa} {fn : List He.DefD} {ts : List He.Tab} {bs : List (PySem.W.Frag → Bool)} {g : Addr → Option Obj} {s : Shared} (h : ∀ a, g a = s.heap.get? a) : obsUG n fa fn ts bs g = (hookU n fa fn ts bs).obs s := by
  have e : g = s.heap.get? := funext h
  rw [e] <;> rfl
section
variable {fa : List He.Fa} {fn : List He.DefD} {ts : List He.Tab} {bs : List (PySem.W.Frag → Bool)} {w : World} {K : PySem.W.Frag}
theorem SaysU.t (c : SaysU fa fn ts bs w K) : He.SaysT fa fn ts w K := congrArg (fun z : AlU => z.1) c
theorem SaysU.b (c : SaysU fa fn ts bs w K) (i : Nat) {b : PySem.W.Frag → Bool} (h : bs[i]? = some b := by rfl) : b K = true := by
  have c1 : (bs.all fun b => b K) = true := congrArg (fun z : AlU => z.2) c
  exact List.all_eq_true.mp c1 b (List.mem_of_getElem? h)
end
end PD

set_option Elab.async false
set_option linter.all false
set_option maxRecDepth 100000
set_option maxHeartbeats 400000
set_option autoImplicit false
namespace K10
open PySem L2 PD PySem.Spec Mi
def tp (i : Nat) : Stmt := PySem.Challenge.pw_lorewide_k10_least_rows_and_kinds.main.body.getD i (.Pass ⟨0, 0, 0, 0⟩)
abbrev st_is_within : Stmt := tp 12
abbrev N_is_within : List Str := ["thing", "least", "greatest"]
abbrev M_is_within : List Md := [.sh, .sh, .sh]
theorem sc_is_within : FnScope N_is_within ["thing", "least", "greatest"] (defScope st_is_within) := ⟨rfl, rfl, rfl, by decide +kernel, rfl, by decide +kernel, by decide +kernel⟩
abbrev st_is_notion_name : Stmt := tp 13
abbrev N_is_notion_name : List Str := ["thing", "sign"]
abbrev M_is_notion_name : List Md := [.sh, .sh]
theorem sc_is_notion_name : FnScope N_is_notion_name ["thing"] (defScope st_is_notion_name) := ⟨rfl, rfl, rfl, by decide +kernel, rfl, by decide +kernel, by decide +kernel⟩
abbrev st_is_notion : Stmt := tp 14
abbrev N_is_notion : List Str := ["thing", "name", "places"]
abbrev M_is_notion : List Md := [.sh, .sh, .sh]
theorem sc_is_notion : FnScope N_is_notion ["thing"] (defScope st_is_notion) := ⟨rfl, rfl, rfl, by decide +kernel, rfl, by decide +kernel, by decide +kernel⟩
abbrev st_is_notions : Stmt := tp 15
abbrev N_is_notions : List Str := ["thing", "one", "name", "places"]
abbrev M_is_notions : List Md := [.sh, .sh, .sh, .sh]
theorem sc_is_notions : FnScope N_is_notions ["thing"] (defScope st_is_notions) := ⟨rfl, rfl, rfl, by decide +kernel, rfl, by decide +kernel, by decide +kernel⟩
abbrev st_made_places : Stmt := tp 16
abbrev N_made_places : List Str := ["word", "some"]
abbrev M_made_places : List Md := [.sh, .sh]
theorem sc_made_places : FnScope N_made_places ["word", "some"] (defScope st_made_places) := ⟨rfl, rfl, rfl, by decide +kernel, rfl, by decide +kernel, by decide +kernel⟩
abbrev st_places_below : Stmt := tp 17
abbrev N_places_below : List Str := ["known", "thing", "left", "some", "word", "own", "part"]
abbrev M_places_below : List Md := [.sh, .sh, .sh, .sh, .sh, .sh, .sh]
theorem sc_places_below : FnScope N_places_below ["known", "thing", "left"] (defScope st_places_below) := ⟨rfl, rfl, rfl, by decide +kernel, rfl, by decide +kernel, by decide +kernel⟩
abbrev st_places_in : Stmt := tp 18
abbrev N_places_in : List Str := ["notions", "term"]
abbrev M_places_in : List Md := [.sh, .sh]
theorem sc_places_in : FnScope N_places_in ["notions", "term"] (defScope st_places_in) := ⟨rfl, rfl, rfl, by decide +kernel, rfl, by decide +kernel, by decide +kernel⟩
abbrev st_text_of : Stmt := tp 19
abbrev N_text_of : List Str := ["term", "word", "own", "part"]
abbrev M_text_of : List Md := [.sh, .sh, .sh, .sh]
theorem sc_text_of : FnScope N_text_of ["term"] (defScope st_text_of) := ⟨rfl, rfl, rfl, by decide +kernel, rfl, by decide +kernel, by decide +kernel⟩
abbrev st_own_terms : Stmt := tp 20
abbrev N_own_terms : List Str := ["term"]
abbrev M_own_terms : List Md := [.sh]
theorem sc_own_terms : FnScope N_own_terms ["term"] (defScope st_own_terms) := ⟨rfl, rfl, rfl, by decide +kernel, rfl, by decide +kernel, by decide +kernel⟩
abbrev st_all_parts : Stmt := tp 21
abbrev N_all_parts : List Str := ["term", "found", "part"]
abbrev M_all_parts : List Md := [.sh, .ow, .sh]
theorem sc_all_parts : FnScope N_all_parts ["term"] (defScope st_all_parts) := ⟨rfl, rfl, rfl, by decide +kernel, rfl, by decide +kernel, by decide +kernel⟩
abbrev st_by_texts : Stmt := tp 22
abbrev N_by_texts : List Str := ["some", "found", "term", "text"]
abbrev M_by_texts : List Md := [.sh, .sh, .sh, .sh]
theorem sc_by_texts : FnScope N_by_texts ["some"] (defScope st_by_texts) := ⟨rfl, rfl, rfl, by decide +kernel, rfl, by decide +kernel, by decide +kernel⟩
abbrev st_terms_by : Stmt := tp 28
abbrev N_terms_by : List Str := ["notions", "some", "term", "part", "name", "places"]
abbrev M_terms_by : List Md := [.sh, .sh, .sh, .sh, .sh, .sh]
theorem sc_terms_by : FnScope N_terms_by ["notions", "some"] (defScope st_terms_by) := ⟨rfl, rfl, rfl, by decide +kernel, rfl, by decide +kernel, by decide +kernel⟩
abbrev st_unknown_rows : Stmt := tp 29
abbrev N_unknown_rows : List Str := ["many", "places", "found", "turn", "row", "one"]
abbrev M_unknown_rows : List Md := [.sh, .sh, .sh, .sh, .sh, .sh]
theorem sc_unknown_rows : FnScope N_unknown_rows ["many", "places"] (defScope st_unknown_rows) := ⟨rfl, rfl, rfl, by decide +kernel, rfl, by decide +kernel, by decide +kernel⟩
abbrev st_many_atoms : Stmt := tp 30
abbrev N_many_atoms : List Str := ["notions", "some", "many", "term"]
abbrev M_many_atoms : List Md := [.sh, .sh, .sh, .sh]
theorem sc_many_atoms : FnScope N_many_atoms ["notions", "some", "many"] (defScope st_many_atoms) := ⟨rfl, rfl, rfl, by decide +kernel, rfl, by decide +kernel, by decide +kernel⟩
abbrev st_are_shown : Stmt := tp 31
abbrev N_are_shown : List Str := ["notions", "thing", "term"]
abbrev M_are_shown : List Md := [.sh, .sh, .sh]
theorem sc_are_shown : FnScope N_are_shown ["notions", "thing"] (defScope st_are_shown) := ⟨rfl, rfl, rfl, by decide +kernel, rfl, by decide +kernel, by decide +kernel⟩
abbrev st_is_field : Stmt := tp 32
abbrev N_is_field : List Str := ["thing", "notions", "some", "many"]
abbrev M_is_field : List Md := [.sh, .sh, .sh, .sh]
theorem sc_is_field : FnScope N_is_field ["thing"] (defScope st_is_field) := ⟨rfl, rfl, rfl, by decide +kernel, rfl, by decide +kernel, by decide +kernel⟩
abbrev st_need_field : Stmt := tp 33
abbrev N_need_field : List Str := ["thing"]
abbrev M_need_field : List Md := [.sh]
theorem sc_need_field : FnScope N_need_field ["thing"] (defScope st_need_field) := ⟨rfl, rfl, rfl, by decide +kernel, rfl, by decide +kernel, by decide +kernel⟩
abbrev st_terms_in : Stmt := tp 34
abbrev N_terms_in : List Str := ["field", "notions", "some", "many"]
abbrev M_terms_in : List Md := [.sh, .sh, .sh, .sh]
theorem sc_terms_in : FnScope N_terms_in ["field"] (defScope st_terms_in) := ⟨rfl, rfl, rfl, by decide +kernel, rfl, by decide +kernel, by decide +kernel⟩
abbrev st_atoms_in : Stmt := tp 35
abbrev N_atoms_in : List Str := ["field", "bare", "terms", "notions", "some", "many", "term", "row"]
abbrev M_atoms_in : List Md := [.sh, .sh, .sh, .sh, .sh, .sh, .sh, .sh]
theorem sc_atoms_in : FnScope N_atoms_in ["field", "bare"] (defScope st_atoms_in) := ⟨rfl, rfl, rfl, by decide +kernel, rfl, by decide +kernel, by decide +kernel⟩
abbrev st_numbers_in : Stmt := tp 36
abbrev N_numbers_in : List Str := ["field", "number", "atom"]
abbrev M_numbers_in : List Md := [.sh, .sh, .sh]
theorem sc_numbers_in : FnScope N_numbers_in ["field"] (defScope st_numbers_in) := ⟨rfl, rfl, rfl, by decide +kernel, rfl, by decide +kernel, by decide +kernel⟩
abbrev st_is_atom_by : Stmt := tp 37
abbrev N_is_atom_by : List Str := ["field", "terms", "thing", "term", "row", "notions", "some", "many", "one"]
abbrev M_is_atom_by : List Md := [.sh, .sh, .sh, .sh, .sh, .sh, .sh, .sh, .sh]
theorem sc_is_atom_by : FnScope N_is_atom_by ["field", "terms", "thing"] (defScope st_is_atom_by) := ⟨rfl, rfl, rfl, by decide +kernel, rfl, by decide +kernel, by decide +kernel⟩
abbrev st_numbers_of : Stmt := tp 39
abbrev N_numbers_of : List Str := ["field", "row", "numbers", "atom"]
abbrev M_numbers_of : List Md := [.sh, .sh, .sh, .sh]
theorem sc_numbers_of : FnScope N_numbers_of ["field", "row"] (defScope st_numbers_of) := ⟨rfl, rfl, rfl, by decide +kernel, rfl, by decide +kernel, by decide +kernel⟩
abbrev st_is_row_in : Stmt := tp 40
abbrev N_is_row_in : List Str := ["field", "thing", "bare", "terms", "numbers", "atom", "one", "other"]
abbrev M_is_row_in : List Md := [.sh, .sh, .sh, .sh, .sh, .sh, .sh, .sh]
theorem sc_is_row_in : FnScope N_is_row_in ["field", "thing", "bare"] (defScope st_is_row_in) := ⟨rfl, rfl, rfl, by decide +kernel, rfl, by decide +kernel, by decide +kernel⟩
abbrev st_need_row : Stmt := tp 41
abbrev N_need_row : List Str := ["field", "thing"]
abbrev M_need_row : List Md := [.sh, .sh]
theorem sc_need_row : FnScope N_need_row ["field", "thing"] (defScope st_need_row) := ⟨rfl, rfl, rfl, by decide +kernel, rfl, by decide +kernel, by decide +kernel⟩
abbrev st_row_by : Stmt := tp 42
abbrev N_row_by : List Str := ["field", "atoms", "numbers", "found", "atom", "number"]
abbrev M_row_by : List Md := [.sh, .sh, .sh, .sh, .sh, .sh]
theorem sc_row_by : FnScope N_row_by ["field", "atoms"] (defScope st_row_by) := ⟨rfl, rfl, rfl, by decide +kernel, rfl, by decide +kernel, by decide +kernel⟩
abbrev st_all_renamings : Stmt := tp 43
abbrev N_all_renamings : List Str := ["many", "found", "turn", "row", "one"]
abbrev M_all_renamings : List Md := [.sh, .sh, .sh, .sh, .sh]
theorem sc_all_renamings : FnScope N_all_renamings ["many"] (defScope st_all_renamings) := ⟨rfl, rfl, rfl, by decide +kernel, rfl, by decide +kernel, by decide +kernel⟩
abbrev st_atom_by : Stmt := tp 44
abbrev N_atom_by : List Str := ["atom", "renaming", "term", "row", "one"]
abbrev M_atom_by : List Md := [.sh, .sh, .sh, .sh, .sh]
theorem sc_atom_by : FnScope N_atom_by ["atom", "renaming"] (defScope st_atom_by) := ⟨rfl, rfl, rfl, by decide +kernel, rfl, by decide +kernel, by decide +kernel⟩
abbrev st_renamed_by : Stmt := tp 45
abbrev N_renamed_by : List Str := ["field", "row", "renaming", "atom"]
abbrev M_renamed_by : List Md := [.sh, .sh, .sh, .sh]
theorem sc_renamed_by : FnScope N_renamed_by ["field", "row", "renaming"] (defScope st_renamed_by) := ⟨rfl, rfl, rfl, by decide +kernel, rfl, by decide +kernel, by decide +kernel⟩
abbrev st_kinds_by : Stmt := tp 46
abbrev N_kinds_by : List Str := ["field", "row", "numbers", "found", "renaming", "some", "places", "atom"]
abbrev M_kinds_by : List Md := [.sh, .sh, .sh, .ow, .sh, .sh, .sh, .sh]
theorem sc_kinds_by : FnScope N_kinds_by ["field", "row"] (defScope st_kinds_by) := ⟨rfl, rfl, rfl, by decide +kernel, rfl, by decide +kernel, by decide +kernel⟩
abbrev st_kinds_of : Stmt := tp 47
abbrev N_kinds_of : List Str := ["field", "row"]
abbrev M_kinds_of : List Md := [.sh, .sh]
theorem sc_kinds_of : FnScope N_kinds_of ["field", "row"] (defScope st_kinds_of) := ⟨rfl, rfl, rfl, by decide +kernel, rfl, by decide +kernel, by decide +kernel⟩
abbrev st_least_by : Stmt := tp 48
abbrev N_least_by : List Str := ["field", "row", "first", "others"]
abbrev M_least_by : List Md := [.sh, .sh, .sh, .sh]
theorem sc_least_by : FnScope N_least_by ["field", "row"] (defScope st_least_by) := ⟨rfl, rfl, rfl, by decide +kernel, rfl, by decide +kernel, by decide +kernel⟩
abbrev st_least_row : Stmt := tp 49
abbrev N_least_row : List Str := ["field", "row"]
abbrev M_least_row : List Md := [.sh, .sh]
theorem sc_least_row : FnScope N_least_row ["field", "row"] (defScope st_least_row) := ⟨rfl, rfl, rfl, by decide +kernel, rfl, by decide +kernel, by decide +kernel⟩
abbrev st__law_pool : Stmt := tp 51
abbrev N__law_pool : List Str := ["script", "k", "cell"]
abbrev M__law_pool : List Md := [.sh, .sh, .sh]
theorem sc__law_pool : FnScope N__law_pool ["script", "k"] (defScope st__law_pool) := ⟨rfl, rfl, rfl, by decide +kernel, rfl, by decide +kernel, by decide +kernel⟩
abbrev st__law_take : Stmt := tp 52
abbrev N__law_take : List Str := ["pool", "many", "one", "two", "digit"]
abbrev M__law_take : List Md := [.pm, .sh, .sh, .sh, .sh]
theorem sc__law_take : FnScope N__law_take ["pool", "many"] (defScope st__law_take) := ⟨rfl, rfl, rfl, by decide +kernel, rfl, by decide +kernel, by decide +kernel⟩
abbrev st__law_same : Stmt := tp 53
abbrev N__law_same : List Str := ["found", "due", "one", "other"]
abbrev M__law_same : List Md := [.sh, .sh, .sh, .sh]
theorem sc__law_same : FnScope N__law_same ["found", "due"] (defScope st__law_same) := ⟨rfl, rfl, rfl, by decide +kernel, rfl, by decide +kernel, by decide +kernel⟩
abbrev st__law_names : Stmt := tp 54
abbrev N__law_names : List Str := ["pool", "many", "letters", "found", "k", "word", "at", "some", "turn", "letter", "one"]
abbrev M__law_names : List Md := [.pm, .sh, .sh, .ow, .sh, .sh, .sh, .sh, .sh, .sh, .sh]
theorem sc__law_names : FnScope N__law_names ["pool", "many"] (defScope st__law_names) := ⟨rfl, rfl, rfl, by decide +kernel, rfl, by decide +kernel, by decide +kernel⟩
abbrev st__law_notions : Stmt := tp 55
abbrev N__law_notions : List Str := ["pool", "names", "name"]
abbrev M__law_notions : List Md := [.pm, .sh, .sh]
theorem sc__law_notions : FnScope N__law_notions ["pool"] (defScope st__law_notions) := ⟨rfl, rfl, rfl, by decide +kernel, rfl, by decide +kernel, by decide +kernel⟩
abbrev st__law_term : Stmt := tp 56
abbrev N__law_term : List Str := ["pool", "notions", "deep", "turn", "term", "places", "mates", "mate", "way", "pair", "made", "name", "many"]
abbrev M__law_term : List Md := [.pm, .sh, .sh, .sh, .sh, .sh, .sh, .sh, .sh, .sh, .sh, .sh, .sh]
theorem sc__law_term : FnScope N__law_term ["pool", "notions", "deep"] (defScope st__law_term) := ⟨rfl, rfl, rfl, by decide +kernel, rfl, by decide +kernel, by decide +kernel⟩
abbrev st__law_parts : Stmt := tp 57
abbrev N__law_parts : List Str := ["term", "found", "part"]
abbrev M__law_parts : List Md := [.sh, .ow, .sh]
theorem sc__law_parts : FnScope N__law_parts ["term"] (defScope st__law_parts) := ⟨rfl, rfl, rfl, by decide +kernel, rfl, by decide +kernel, by decide +kernel⟩
abbrev st__law_text : Stmt := tp 58
abbrev N__law_text : List Str := ["term", "part"]
abbrev M__law_text : List Md := [.sh, .sh]
theorem sc__law_text : FnScope N__law_text ["term"] (defScope st__law_text) := ⟨rfl, rfl, rfl, by decide +kernel, rfl, by decide +kernel, by decide +kernel⟩
abbrev st__law_width : Stmt := tp 59
abbrev N__law_width : List Str := ["notions", "term"]
abbrev M__law_width : List Md := [.sh, .sh]
theorem sc__law_width : FnScope N__law_width ["notions", "term"] (defScope st__law_width) := ⟨rfl, rfl, rfl, by decide +kernel, rfl, by decide +kernel, by decide +kernel⟩
abbrev st__law_terms : Stmt := tp 60
abbrev N__law_terms : List Str := ["notions", "some", "found", "term", "part", "text", "name", "places"]
abbrev M__law_terms : List Md := [.sh, .sh, .ow, .sh, .sh, .sh, .sh, .sh]
theorem sc__law_terms : FnScope N__law_terms ["notions", "some"] (defScope st__law_terms) := ⟨rfl, rfl, rfl, by decide +kernel, rfl, by decide +kernel, by decide +kernel⟩
abbrev st__law_rows : Stmt := tp 61
abbrev N__law_rows : List Str := ["many", "places", "found", "one", "other"]
abbrev M__law_rows : List Md := [.sh, .sh, .ow, .sh, .sh]
theorem sc__law_rows : FnScope N__law_rows ["many", "places"] (defScope st__law_rows) := ⟨rfl, rfl, rfl, by decide +kernel, rfl, by decide +kernel, by decide +kernel⟩
abbrev st__law_atoms : Stmt := tp 62
abbrev N__law_atoms : List Str := ["field", "bare", "found", "term", "row"]
abbrev M__law_atoms : List Md := [.sh, .sh, .ow, .sh, .sh]
theorem sc__law_atoms : FnScope N__law_atoms ["field", "bare"] (defScope st__law_atoms) := ⟨rfl, rfl, rfl, by decide +kernel, rfl, by decide +kernel, by decide +kernel⟩
abbrev st__law_field : Stmt := tp 63
abbrev N__law_field : List Str := ["pool", "top", "notions", "many", "some", "turn", "term", "places", "field", "other"]
abbrev M__law_field : List Md := [.pm, .sh, .sh, .sh, .ow, .sh, .sh, .sh, .sh, .sh]
theorem sc__law_field : FnScope N__law_field ["pool", "top"] (defScope st__law_field) := ⟨rfl, rfl, rfl, by decide +kernel, rfl, by decide +kernel, by decide +kernel⟩
abbrev st__law_turnings : Stmt := tp 64
abbrev N__law_turnings : List Str := ["many"]
abbrev M__law_turnings : List Md := [.sh]
theorem sc__law_turnings : FnScope N__law_turnings ["many"] (defScope st__law_turnings) := ⟨rfl, rfl, rfl, by decide +kernel, rfl, by decide +kernel, by decide +kernel⟩
abbrev st__law_rising : Stmt := tp 65
abbrev N__law_rising : List Str := ["atoms", "found", "term", "row", "spot"]
abbrev M__law_rising : List Md := [.sh, .ow, .sh, .sh, .sh]
theorem sc__law_rising : FnScope N__law_rising ["atoms"] (defScope st__law_rising) := ⟨rfl, rfl, rfl, by decide +kernel, rfl, by decide +kernel, by decide +kernel⟩
abbrev st__law_turned : Stmt := tp 66
abbrev N__law_turned : List Str := ["row", "turning", "term", "some", "one"]
abbrev M__law_turned : List Md := [.sh, .sh, .sh, .sh, .sh]
theorem sc__law_turned : FnScope N__law_turned ["row", "turning"] (defScope st__law_turned) := ⟨rfl, rfl, rfl, by decide +kernel, rfl, by decide +kernel, by decide +kernel⟩
abbrev st__law_spots : Stmt := tp 67
abbrev N__law_spots : List Str := ["field", "row", "atoms", "atom"]
abbrev M__law_spots : List Md := [.sh, .sh, .sh, .sh]
theorem sc__law_spots : FnScope N__law_spots ["field", "row"] (defScope st__law_spots) := ⟨rfl, rfl, rfl, by decide +kernel, rfl, by decide +kernel, by decide +kernel⟩
abbrev st__law_some : Stmt := tp 68
abbrev N__law_some : List Str := ["pool", "things", "share", "thing"]
abbrev M__law_some : List Md := [.pm, .sh, .sh, .sh]
theorem sc__law_some : FnScope N__law_some ["pool", "things", "share"] (defScope st__law_some) := ⟨rfl, rfl, rfl, by decide +kernel, rfl, by decide +kernel, by decide +kernel⟩
abbrev st__law_folded : Stmt := tp 69
abbrev N__law_folded : List Str := ["script", "top", "k"]
abbrev M__law_folded : List Md := [.sh, .sh, .sh]
theorem sc__law_folded : FnScope N__law_folded ["script", "top"] (defScope st__law_folded) := ⟨rfl, rfl, rfl, by decide +kernel, rfl, by decide +kernel, by decide +kernel⟩
abbrev st__law_any_row : Stmt := tp 70
abbrev N__law_any_row : List Str := ["pool", "field", "bare", "atoms", "share", "some"]
abbrev M__law_any_row : List Md := [.pm, .sh, .sh, .sh, .sh, .sh]
theorem sc__law_any_row : FnScope N__law_any_row ["pool", "field", "bare"] (defScope st__law_any_row) := ⟨rfl, rfl, rfl, by decide +kernel, rfl, by decide +kernel, by decide +kernel⟩
abbrev st__law_due_kinds : Stmt := tp 71
abbrev N__law_due_kinds : List Str := ["field", "row", "found", "turning", "some", "spots"]
abbrev M__law_due_kinds : List Md := [.sh, .sh, .ow, .sh, .sh, .sh]
theorem sc__law_due_kinds : FnScope N__law_due_kinds ["field", "row"] (defScope st__law_due_kinds) := ⟨rfl, rfl, rfl, by decide +kernel, rfl, by decide +kernel, by decide +kernel⟩
abbrev st__law_even : Stmt := tp 72
abbrev N__law_even : List Str := ["field", "row", "found", "turning"]
abbrev M__law_even : List Md := [.sh, .sh, .ow, .sh]
theorem sc__law_even : FnScope N__law_even ["field", "row"] (defScope st__law_even) := ⟨rfl, rfl, rfl, by decide +kernel, rfl, by decide +kernel, by decide +kernel⟩
abbrev st_law : Stmt := tp 73
abbrev N_law : List Str := ["script", "cells", "k", "pool", "field", "rows", "row", "kept", "due", "some"]
abbrev M_law : List Md := [.sh, .sh, .sh, .ow, .sh, .ow, .sh, .sh, .sh, .sh]
theorem sc_law : FnScope N_law ["script"] (defScope st_law) := ⟨rfl, rfl, rfl, by decide +kernel, rfl, by decide +kernel, by decide +kernel⟩
/-- what the top has written -/
structure Tx (K : PySem.W.Frag) (w : World) (mg : Str → Option Value) : Prop where
  d_is_within : Def K mg "is_within" st_is_within
  d_is_notion_name : Def K mg "is_notion_name" st_is_notion_name
  d_is_notion : Def K mg "is_notion" st_is_notion
  d_is_notions : Def K mg "is_notions" st_is_notions
  d_made_places : Def K mg "made_places" st_made_places
  d_places_below : Def K mg "places_below" st_places_below
  d_places_in : Def K mg "places_in" st_places_in
  d_text_of : Def K mg "text_of" st_text_of
  d_own_terms : Def K mg "own_terms" st_own_terms
  d_all_parts : Def K mg "all_parts" st_all_parts
  d_by_texts : Def K mg "by_texts" st_by_texts
  d_terms_by : Def K mg "terms_by" st_terms_by
  d_unknown_rows : Def K mg "unknown_rows" st_unknown_rows
  d_many_atoms : Def K mg "many_atoms" st_many_atoms
  d_are_shown : Def K mg "are_shown" st_are_shown
  d_is_field : Def K mg "is_field" st_is_field
  d_need_field : Def K mg "need_field" st_need_field
  d_terms_in : Def K mg "terms_in" st_terms_in
  d_atoms_in : Def K mg "atoms_in" st_atoms_in
  d_numbers_in : Def K mg "numbers_in" st_numbers_in
  d_is_atom_by : Def K mg "is_atom_by" st_is_atom_by
  d_numbers_of : Def K mg "numbers_of" st_numbers_of
  d_is_row_in : Def K mg "is_row_in" st_is_row_in
  d_need_row : Def K mg "need_row" st_need_row
  d_row_by : Def K mg "row_by" st_row_by
  d_all_renamings : Def K mg "all_renamings" st_all_renamings
  d_atom_by : Def K mg "atom_by" st_atom_by
  d_renamed_by : Def K mg "renamed_by" st_renamed_by
  d_kinds_by : Def K mg "kinds_by" st_kinds_by
  d_kinds_of : Def K mg "kinds_of" st_kinds_of
  d_least_by : Def K mg "least_by" st_least_by
  d_least_row : Def K mg "least_row" st_least_row
  d__law_pool : Def K mg "_law_pool" st__law_pool
  d__law_take : Def K mg "_law_take" st__law_take
  d__law_same : Def K mg "_law_same" st__law_same
  d__law_names : Def K mg "_law_names" st__law_names
  d__law_notions : Def K mg "_law_notions" st__law_notions
  d__law_term : Def K mg "_law_term" st__law_term
  d__law_parts : Def K mg "_law_parts" st__law_parts
  d__law_text : Def K mg "_law_text" st__law_text
  d__law_width : Def K mg "_law_width" st__law_width
  d__law_terms : Def K mg "_law_terms" st__law_terms
  d__law_rows : Def K mg "_law_rows" st__law_rows
  d__law_atoms : Def K mg "_law_atoms" st__law_atoms
  d__law_field : Def K mg "_law_field" st__law_field
  d__law_turnings : Def K mg "_law_turnings" st__law_turnings
  d__law_rising : Def K mg "_law_rising" st__law_rising
  d__law_turned : Def K mg "_law_turned" st__law_turned
  d__law_spots : Def K mg "_law_spots" st__law_spots
  d__law_some : Def K mg "_law_some" st__law_some
  d__law_folded : Def K mg "_law_folded" st__law_folded
  d__law_any_row : Def K mg "_law_any_row" st__law_any_row
  d__law_due_kinds : Def K mg "_law_due_kinds" st__law_due_kinds
  d__law_even : Def K mg "_law_even" st__law_even
  d_law : Def K mg "law" st_law
  c_DEEPEST : ScC mg "DEEPEST" (.int 3)
  c_MADE_OF : DiC K w mg "MADE_OF" [("not", 1), ("both", 2), ("either", 2), ("turned", 1), ("chain", 2), ("some", 1)]
  c_MOST_ATOMS : ScC mg "MOST_ATOMS" (.int 40)
  c_MOST_LETTERS : ScC mg "MOST_LETTERS" (.int 8)
  c_MOST_NOTIONS : ScC mg "MOST_NOTIONS" (.int 3)
  c_MOST_PLACES : ScC mg "MOST_PLACES" (.int 2)
  c_MOST_SHOWN : ScC mg "MOST_SHOWN" (.int 10)
  c_MOST_TERMS : ScC mg "MOST_TERMS" (.int 4)
  c_MOST_UNKNOWNS : ScC mg "MOST_UNKNOWNS" (.int 3)
  c_OF_TWO : TuC K mg "OF_TWO" ["turned", "chain", "some"]
  c_SMALL_LETTERS : ScC mg "SMALL_LETTERS" (.str "abcdefghijklmnopqrstuvwxyz")
  n_all : mg "all" = none
  n_bool : mg "bool" = none
  n_dict : mg "dict" = none
  n_enumerate : mg "enumerate" = none
  n_int : mg "int" = none
  n_isinstance : mg "isinstance" = none
  n_len : mg "len" = none
  n_list : mg "list" = none
  n_max : mg "max" = none
  n_min : mg "min" = none
  n_range : mg "range" = none
  n_repr : mg "repr" = none
  n_sorted : mg "sorted" = none
  n_str : mg "str" = none
  n_sum : mg "sum" = none
  n_tuple : mg "tuple" = none
  n_zip : mg "zip" = none
section
variable {P : Program} {w : World} {K : PySem.W.Frag} {mg : Str → Option Value} {base : Heap}
theorem bd_is_within {X : Cx} {W : WX} (T : Tx X.K X.w X.mg)  (hr : Room (0) X.A) (tk : Takes X W) (hp : PassesOwn (model X.prog X.w) X.A X.env X.xe) (hk : X.env.scope.kind = .function) (c : CF X N_is_within (defScope st_is_within) (fun _ => true)) : PSsX X W M_is_within .fr (defBody st_is_within) den_is_within :=
    (pssx_one (psx_ret (px_and (px_is .int (c.gl (by decide +kernel)) T.n_isinstance rfl (c.gl (by decide +kernel)) T.n_int (wv c (i := 0) rfl rfl (by decide +kernel))) (px_and (px_not (px_is .bool (c.gl (by decide +kernel)) T.n_isinstance rfl (c.gl (by decide +kernel)) T.n_bool (wv c (i := 0) rfl rfl (by decide +kernel)))) (px_one (px_chain od_le od_le (wv c (i := 1) rfl rfl (by decide +kernel)) (wv c (i := 0) rfl rfl (by decide +kernel)) (PX.ow (wv c (i := 2) rfl rfl (by decide +kernel)))))))))
theorem ok_is_within (T : Tx K w mg)  : FnX P w K mg base 1 "is_within" P_is_within .fr m_is_within := by
  unfold m_is_within
  exact fnx_of (N := N_is_within) (M := M_is_within) (body := den_is_within) T.d_is_within sc_is_within rfl rfl rfl (by decide) (fun _ _ _ _ _ _ us hl => match us, hl with | [_, _, _], _ => rfl) (fun X W eP ew eK em eb hr tk hp hk c => by
      subst eP; subst ew; subst eK; subst em; subst eb
      exact bd_is_within T  hr tk hp hk c)
theorem bd_is_notion_name {X : Cx} {W : WX} (T : Tx X.K X.w X.mg)  (hr : Room (0) X.A) (tk : Takes X W) (hp : PassesOwn (model X.prog X.w) X.A X.env X.xe) (hk : X.env.scope.kind = .function) (c : CF X N_is_notion_name (defScope st_is_notion_name) (fun _ => true)) : PSsX X W M_is_notion_name .fr (defBody st_is_notion_name) den_is_notion_name :=
    (pssx_cons (psx_if (PXW.t (pxw_or (pxt_not (pxt_b (px_is .str (c.gl (by decide +kernel)) T.n_isinstance rfl (c.gl (by decide +kernel)) T.n_str (wv c (i := 0) rfl rfl (by decide +kernel))))) (pxw_or (pxt_not (pxt_chain od_le od_le px_int (px_callB cd_len (c.gl (by decide +kernel)) T.n_len bt_len (PX.ow (wv c (i := 0) rfl rfl (by decide +kernel)))) (wconI c T.c_MOST_LETTERS (by decide +kernel)))) (pxw_or1 (pxt_inC c T.c_MADE_OF (by decide +kernel) (wv c (i := 0) rfl rfl (by decide +kernel)) (by with_unfolding_all rfl))))))
    (pssx_one (psx_ret px_bl))
    pssx_nil)
    (pssx_one (psx_ret (px_callB (cd_all c.calm) (c.gl (by decide +kernel)) T.n_all bt_all (PX.frow (px_lc c (pix_str (bb := true) (PX.ow (wv c (i := 0) rfl rfl (by decide +kernel)))) (own := [("sign", 1)]) (by decide +kernel) (by decide) (by decide) (fun b1 => have c1 := CF.blk c _ b1; (wtg c1 (i := 1) rfl rfl (by decide +kernel))) (fun _ => pxts_nil) (fun b2 => have c2 := CF.blk c _ b2; (px_cmp od_inS (wv c2 (i := 1) rfl rfl (by decide +kernel)) (wconS c2 T.c_SMALL_LETTERS (by decide +kernel)) (by with_unfolding_all rfl)))))))))
theorem ok_is_notion_name (T : Tx K w mg)  : FnX P w K mg base 1 "is_notion_name" P_is_notion_name .fr m_is_notion_name := by
  unfold m_is_notion_name
  exact fnx_of (N := N_is_notion_name) (M := M_is_notion_name) (body := den_is_notion_name) T.d_is_notion_name sc_is_notion_name rfl rfl rfl (by decide) (fun _ _ _ _ _ _ us hl => match us, hl with | [_], _ => rfl) (fun X W eP ew eK em eb hr tk hp hk c => by
      subst eP; subst ew; subst eK; subst em; subst eb
      exact bd_is_notion_name T  hr tk hp hk c)
theorem bd_is_notion {X : Cx} {W : WX} (T : Tx X.K X.w X.mg) (h_is_notion_name : FnX X.prog X.w X.K X.mg X.base 1 "is_notion_name" P_is_notion_name .fr m_is_notion_name) (h_is_within : FnX X.prog X.w X.K X.mg X.base 1 "is_within" P_is_within .fr m_is_within) (hr : Room (1) X.A) (tk : Takes X W) (hp : PassesOwn (model X.prog X.w) X.A X.env X.xe) (hk : X.env.scope.kind = .function) (c : CF X N_is_notion (defScope st_is_notion) (fun _ => true)) : PSsX X W M_is_notion .fr (defBody st_is_notion) den_is_notion :=
    (pssx_cons (psx_if (PXW.t (pxw_or (pxt_not (pxt_b (px_is .tuple (c.gl (by decide +kernel)) T.n_isinstance rfl (c.gl (by decide +kernel)) T.n_tuple (wv c (i := 0) rfl rfl (by decide +kernel))))) (pxw_or1 (pxt_cmp (od_ne c.un) (px_callB cd_len (c.gl (by decide +kernel)) T.n_len bt_len (PX.ow (wv c (i := 0) rfl rfl (by decide +kernel)))) px_int (nomark _)))))
    (pssx_one (psx_ret px_bl))
    pssx_nil)
    (pssx_cons (psx_asg (wv c (i := 0) rfl rfl (by decide +kernel)) (pgx_tup c.calm (pgsx_cons (wtg c (i := 1) rfl rfl (by decide +kernel)) (pgsx_cons (wtg c (i := 2) rfl rfl (by decide +kernel)) pgsx_nil)) (tl_cons (tl_cons tl_nil))))
    (pssx_one (psx_ret (px_and (PX.frow (wcall c h_is_notion_name hr (by decide) tk (by decide +kernel) rfl (pxa_cons (wv c (i := 1) rfl rfl (by decide +kernel)) pxa_nil) (gl_cons gl_nil))) (px_one (wcall c h_is_within hr (by decide) tk (by decide +kernel) rfl (pxa_cons (wv c (i := 2) rfl rfl (by decide +kernel)) (pxa_cons px_int (pxa_cons (wconI c T.c_MOST_PLACES (by decide +kernel)) pxa_nil))) (gl_cons (gl_cons (gl_cons gl_nil))))))))))
theorem ok_is_notion (T : Tx K w mg) (h_is_notion_name : FnX P w K mg base 1 "is_notion_name" P_is_notion_name .fr m_is_notion_name) (h_is_within : FnX P w K mg base 1 "is_within" P_is_within .fr m_is_within) : FnX P w K mg base 2 "is_notion" P_is_notion .fr m_is_notion := by
  unfold m_is_notion
  exact fnx_of (N := N_is_notion) (M := M_is_notion) (body := den_is_notion) T.d_is_notion sc_is_notion rfl rfl rfl (by decide) (fun _ _ _ _ _ _ us hl => match us, hl with | [_], _ => rfl) (fun X W eP ew eK em eb hr tk hp hk c => by
      subst eP; subst ew; subst eK; subst em; subst eb
      exact bd_is_notion T h_is_notion_name h_is_within hr tk hp hk c)
theorem bd_is_notions {X : Cx} {W : WX} (T : Tx X.K X.w X.mg) (h_is_notion : FnX X.prog X.w X.K X.mg X.base 2 "is_notion" P_is_notion .fr m_is_notion) (hr : Room (2) X.A) (tk : Takes X W) (hp : PassesOwn (model X.prog X.w) X.A X.env X.xe) (hk : X.env.scope.kind = .function) (c : CF X N_is_notions (defScope st_is_notions) (fun _ => true)) : PSsX X W M_is_notions .fr (defBody st_is_notions) den_is_notions :=
    (pssx_cons (psx_if (PXW.t (pxw_or (pxt_not (pxt_b (px_is .tuple (c.gl (by decide +kernel)) T.n_isinstance rfl (c.gl (by decide +kernel)) T.n_tuple (wv c (i := 0) rfl rfl (by decide +kernel))))) (pxw_or1 (pxt_not (pxt_chain od_le od_le px_int (px_callB cd_len (c.gl (by decide +kernel)) T.n_len bt_len (PX.ow (wv c (i := 0) rfl rfl (by decide +kernel)))) (wconI c T.c_MOST_NOTIONS (by decide +kernel)))))))
    (pssx_one (psx_ret px_bl))
    pssx_nil)
    (pssx_cons (psx_if (pxt_not (pxt_b (px_callB (cd_all c.calm) (c.gl (by decide +kernel)) T.n_all bt_all (PX.frow (px_lc c (pix_seq (bb := true) (wv c (i := 0) rfl rfl (by decide +kernel))) (own := [("one", 1)]) (by decide +kernel) (by decide) (by decide) (fun b3 => have c3 := CF.blk c _ b3; (wtg c3 (i := 1) rfl rfl (by decide +kernel))) (fun _ => pxts_nil) (fun b4 => have c4 := CF.blk c _ b4; (PX.sh (wcall c4 h_is_notion hr (by decide) takes0 (by decide +kernel) rfl (pxa_cons (wv c4 (i := 1) rfl rfl (by decide +kernel)) pxa_nil) (gl_cons gl_nil)))))))))
    (pssx_one (psx_ret px_bl))
    pssx_nil)
    (pssx_one (psx_ret (px_cmp (od_eq c.un) (px_lenSC c (c.gl (by decide +kernel)) T.n_len (pix_seq (bb := true) (wv c (i := 0) rfl rfl (by decide +kernel))) (own := [("name", 2), ("places", 3)]) (by decide +kernel) (by decide) (by decide) (fun b1 => have c1 := CF.blk c _ b1; (pgx_tup c1.calm (pgsx_cons (wtg c1 (i := 2) rfl rfl (by decide +kernel)) (pgsx_cons (wtg c1 (i := 3) rfl rfl (by decide +kernel)) pgsx_nil)) (tl_cons (tl_cons tl_nil)))) (fun _ => pxts_nil) (fun b2 => have c2 := CF.blk c _ b2; (wv c2 (i := 2) rfl rfl (by decide +kernel)))) (px_callB cd_len (c.gl (by decide +kernel)) T.n_len bt_len (PX.ow (wv c (i := 0) rfl rfl (by decide +kernel)))) (nomark _))))))
theorem ok_is_notions (T : Tx K w mg) (h_is_notion : FnX P w K mg base 2 "is_notion" P_is_notion .fr m_is_notion) : FnX P w K mg base 3 "is_notions" P_is_notions .fr m_is_notions := by
  unfold m_is_notions
  exact fnx_of (N := N_is_notions) (M := M_is_notions) (body := den_is_notions) T.d_is_notions sc_is_notions rfl rfl rfl (by decide) (fun _ _ _ _ _ _ us hl => match us, hl with | [_], _ => rfl) (fun X W eP ew eK em eb hr tk hp hk c => by
      subst eP; subst ew; subst eK; subst em; subst eb
      exact bd_is_notions T h_is_notion hr tk hp hk c)
theorem bd_made_places {X : Cx} {W : WX} (T : Tx X.K X.w X.mg)  (hr : Room (0) X.A) (tk : Takes X W) (hp : PassesOwn (model X.prog X.w) X.A X.env X.xe) (hk : X.env.scope.kind = .function) (c : CF X N_made_places (defScope st_made_places) (fun _ => true)) : PSsX X W M_made_places .fr (defBody st_made_places) den_made_places :=
    (pssx_cons (psx_if (pxt_cmp (od_in c.un) (wv c (i := 0) rfl rfl (by decide +kernel)) (wconT c T.c_OF_TWO (by decide +kernel)) (by with_unfolding_all rfl))
    (pssx_cons (psx_if (pxt_cmp od_lt (px_callB (cd_min c.calm) (c.gl (by decide +kernel)) T.n_min bt_min (PX.ow (wv c (i := 1) rfl rfl (by decide +kernel)))) px_int (nomark _))
    (pssx_one (psx_ret px_non))
    pssx_nil)
    (pssx_one (psx_ret (px_if (pxt_cmp (od_eq c.un) (wv c (i := 0) rfl rfl (by decide +kernel)) px_str (nomark _)) px_int px_int))))
    pssx_nil)
    (pssx_one (psx_ret (PX.im (PX.ow (px_if (pxt_cmp (od_eq c.un) (px_ix ixd (wv c (i := 1) rfl rfl (by decide +kernel)) px_int (fun _ _ => rfl)) (PX.ow (px_ix ixd (wv c (i := 1) rfl rfl (by decide +kernel)) (px_neg px_int) (fun _ _ => rfl))) (nomark _)) (px_ix ixd (wv c (i := 1) rfl rfl (by decide +kernel)) px_int (fun _ _ => rfl)) px_non))))))
theorem ok_made_places (T : Tx K w mg)  : FnX P w K mg base 1 "made_places" P_made_places .fr m_made_places := by
  unfold m_made_places
  exact fnx_of (N := N_made_places) (M := M_made_places) (body := den_made_places) T.d_made_places sc_made_places rfl rfl rfl (by decide) (fun _ _ _ _ _ _ us hl => match us, hl with | [_, _], _ => rfl) (fun X W eP ew eK em eb hr tk hp hk c => by
      subst eP; subst ew; subst eK; subst em; subst eb
      exact bd_made_places T  hr tk hp hk c)
theorem bd_places_below {X : Cx} {W : WX} {j : Nat} {self : FDen} (T : Tx X.K X.w X.mg) (h_made_places : FnX X.prog X.w X.K X.mg X.base 1 "made_places" P_made_places .fr m_made_places) (ih : FnX X.prog X.w X.K X.mg X.base (1 + j) "places_below" P_places_below .fr self) (hr : Room (1 + j) X.A) (tk : Takes X W) (hp : PassesOwn (model X.prog X.w) X.A X.env X.xe) (hk : X.env.scope.kind = .function) (c : CF X N_places_below (defScope st_places_below) (fun _ => true)) : PSsX X W M_places_below .fr (defBody st_places_below) (den_places_below self) :=
    (pssx_cons (psx_if (pxt_b (px_is .str (c.gl (by decide +kernel)) T.n_isinstance rfl (c.gl (by decide +kernel)) T.n_str (wv c (i := 1) rfl rfl (by decide +kernel))))
    (pssx_one (psx_ret (PX.im (PX.ow (px_dget1 c.u1 (wv c (i := 0) rfl rfl (by decide +kernel)) (wv c (i := 1) rfl rfl (by decide +kernel)) ⟨rfl, rfl, rfl, rfl⟩)))))
    pssx_nil)
    (pssx_cons (psx_if (PXW.t (pxw_or (pxt_cmp (od_eq c.un) (wv c (i := 2) rfl rfl (by decide +kernel)) px_int (nomark _)) (pxw_or (pxt_not (pxt_b (px_is .tuple (c.gl (by decide +kernel)) T.n_isinstance rfl (c.gl (by decide +kernel)) T.n_tuple (wv c (i := 1) rfl rfl (by decide +kernel))))) (pxw_or1 (pxt_cmp (od_eq c.un) (wv c (i := 1) rfl rfl (by decide +kernel)) (px_tup pxa_nil) (nomark _))))))
    (pssx_one (psx_ret px_non))
    pssx_nil)
    (pssx_cons (psx_star c.calm (wv c (i := 1) rfl rfl (by decide +kernel)) (pgsx_cons (wtg c (i := 4) rfl rfl (by decide +kernel)) (pgsx_cons (wtg c (i := 5) rfl rfl (by decide +kernel)) pgsx_nil)))
    (pssx_cons (psx_if (PXW.t (pxw_or (pxt_not (pxt_b (px_is .str (c.gl (by decide +kernel)) T.n_isinstance rfl (c.gl (by decide +kernel)) T.n_str (wv c (i := 4) rfl rfl (by decide +kernel))))) (pxw_or1 (pxt_cmp (od_ne c.un) (px_getC c T.c_MADE_OF (by decide +kernel) (wv c (i := 4) rfl rfl (by decide +kernel)) ⟨rfl, rfl, rfl, rfl⟩) (px_callB cd_len (c.gl (by decide +kernel)) T.n_len bt_len (PX.ow (wv c (i := 5) rfl rfl (by decide +kernel)))) (nomark _)))))
    (pssx_one (psx_ret px_non))
    pssx_nil)
    (pssx_cons (wsetLC c (i := 3) rfl rfl (by decide +kernel) hk rfl (by decide +kernel) (pix_seq (bb := true) (wv c (i := 5) rfl rfl (by decide +kernel))) (own := [("part", 6)]) (by decide +kernel) (by decide) (by decide) (fun b1 => have c1 := CF.blk c _ b1; (wtg c1 (i := 6) rfl rfl (by decide +kernel))) (fun _ => pxts_nil) (fun b2 => have c2 := CF.blk c _ b2; (PX.sh (wcall c2 ih hr (Nat.le_refl _) takes0 (by decide +kernel) rfl (pxa_cons (wv c2 (i := 0) rfl rfl (by decide +kernel)) (pxa_cons (wv c2 (i := 6) rfl rfl (by decide +kernel)) (pxa_cons (px_op od_sub (wv c2 (i := 2) rfl rfl (by decide +kernel)) px_int) pxa_nil))) (gl_cons (gl_cons (gl_cons gl_nil)))))))
    (pssx_one (psx_ret (px_if (pxt_cmp (od_in c.un) px_non (PX.ow (wv c (i := 3) rfl rfl (by decide +kernel))) (by with_unfolding_all rfl)) px_non (wcall c h_made_places hr (by omega) tk (by decide +kernel) rfl (pxa_cons (wv c (i := 4) rfl rfl (by decide +kernel)) (pxa_cons (wv c (i := 3) rfl rfl (by decide +kernel)) pxa_nil)) (gl_cons (gl_cons gl_nil)))))))))))
theorem ok_places_below (T : Tx K w mg) (h_made_places : FnX P w K mg base 1 "made_places" P_made_places .fr m_made_places) : ∀ j : Nat, FnX P w K mg base (1 + j) "places_below" P_places_below .fr (m_places_below j)
  | 0 => by
    rw [m_places_below_z]
    exact fnx_bad T.d_places_below sc_places_below rfl (fun _ _ _ _ _ _ us hl => match us, hl with | [_, _, _], _ => rfl)
  | j + 1 => by
    have ih := ok_places_below T h_made_places j
    rw [m_places_below_s]
    exact fnx_of (N := N_places_below) (M := M_places_below) (body := den_places_below (m_places_below j)) T.d_places_below sc_places_below rfl rfl rfl (by decide) (fun _ _ _ _ _ _ us hl => match us, hl with | [_, _, _], _ => rfl) (fun X W eP ew eK em eb hr tk hp hk c => by
      subst eP; subst ew; subst eK; subst em; subst eb
      exact bd_places_below T h_made_places ih hr tk hp hk c)
theorem bd_places_in {X : Cx} {W : WX} (T : Tx X.K X.w X.mg) (h_places_below : FnX X.prog X.w X.K X.mg X.base 6 "places_below" P_places_below .fr (m_places_below 5)) (hr : Room (6) X.A) (tk : Takes X W) (hp : PassesOwn (model X.prog X.w) X.A X.env X.xe) (hk : X.env.scope.kind = .function) (c : CF X N_places_in (defScope st_places_in) (fun _ => true)) : PSsX X W M_places_in .fr (defBody st_places_in) den_places_in :=
    (pssx_one (psx_ret (wcall c h_places_below hr (by decide) tk (by decide +kernel) rfl (pxa_cons (PX.sh (px_callT (cd_dict c.calm) (c.gl (by decide +kernel)) T.n_dict bt_dict (PX.ow (wv c (i := 0) rfl rfl (by decide +kernel))))) (pxa_cons (wv c (i := 1) rfl rfl (by decide +kernel)) (pxa_cons (wconI c T.c_DEEPEST (by decide +kernel)) pxa_nil))) (gl_cons (gl_cons (gl_cons gl_nil))))))
theorem ok_places_in (T : Tx K w mg) (h_places_below : FnX P w K mg base 6 "places_below" P_places_below .fr (m_places_below 5)) : FnX P w K mg base 7 "places_in" P_places_in .fr m_places_in := by
  unfold m_places_in
  exact fnx_of (N := N_places_in) (M := M_places_in) (body := den_places_in) T.d_places_in sc_places_in rfl rfl rfl (by decide) (fun _ _ _ _ _ _ us hl => match us, hl with | [_, _], _ => rfl) (fun X W eP ew eK em eb hr tk hp hk c => by
      subst eP; subst ew; subst eK; subst em; subst eb
      exact bd_places_in T h_places_below hr tk hp hk c)
theorem bd_text_of {X : Cx} {W : WX} {j : Nat} {self : FDen} (T : Tx X.K X.w X.mg)  (ih : FnX X.prog X.w X.K X.mg X.base (0 + j) "text_of" P_text_of .fr self) (hr : Room (0 + j) X.A) (tk : Takes X W) (hp : PassesOwn (model X.prog X.w) X.A X.env X.xe) (hk : X.env.scope.kind = .function) (c : CF X N_text_of (defScope st_text_of) (fun _ => true)) : PSsX X W M_text_of .fr (defBody st_text_of) (den_text_of self) :=
    (pssx_cons (psx_if (pxt_b (px_is .str (c.gl (by decide +kernel)) T.n_isinstance rfl (c.gl (by decide +kernel)) T.n_str (wv c (i := 0) rfl rfl (by decide +kernel))))
    (pssx_one (psx_ret (PX.im (PX.ow (wv c (i := 0) rfl rfl (by decide +kernel))))))
    pssx_nil)
    (pssx_cons (psx_star c.calm (wv c (i := 0) rfl rfl (by decide +kernel)) (pgsx_cons (wtg c (i := 1) rfl rfl (by decide +kernel)) (pgsx_cons (wtg c (i := 2) rfl rfl (by decide +kernel)) pgsx_nil)))
    (pssx_one (psx_ret (px_join px_str (PX.sh (px_op od_add (PX.sh (px_lst (pxa_cons (wv c (i := 1) rfl rfl (by decide +kernel)) pxa_nil))) (PX.frow (px_lc c (pix_seq (bb := true) (wv c (i := 2) rfl rfl (by decide +kernel))) (own := [("part", 3)]) (by decide +kernel) (by decide) (by decide) (fun b1 => have c1 := CF.blk c _ b1; (wtg c1 (i := 3) rfl rfl (by decide +kernel))) (fun _ => pxts_nil) (fun b2 => have c2 := CF.blk c _ b2; (PX.sh (wcall c2 ih hr (Nat.le_refl _) takes0 (by decide +kernel) rfl (pxa_cons (wv c2 (i := 3) rfl rfl (by decide +kernel)) pxa_nil) (gl_cons gl_nil)))))))))))))
theorem ok_text_of (T : Tx K w mg)  : ∀ j : Nat, FnX P w K mg base (0 + j) "text_of" P_text_of .fr (m_text_of j)
  | 0 => by
    rw [m_text_of_z]
    exact fnx_bad T.d_text_of sc_text_of rfl (fun _ _ _ _ _ _ us hl => match us, hl with | [_], _ => rfl)
  | j + 1 => by
    have ih := ok_text_of T  j
    rw [m_text_of_s]
    exact fnx_of (N := N_text_of) (M := M_text_of) (body := den_text_of (m_text_of j)) T.d_text_of sc_text_of rfl rfl rfl (by decide) (fun _ _ _ _ _ _ us hl => match us, hl with | [_], _ => rfl) (fun X W eP ew eK em eb hr tk hp hk c => by
      subst eP; subst ew; subst eK; subst em; subst eb
      exact bd_text_of T  ih hr tk hp hk c)
theorem bd_own_terms {X : Cx} {W : WX} (T : Tx X.K X.w X.mg)  (hr : Room (0) X.A) (tk : Takes X W) (hp : PassesOwn (model X.prog X.w) X.A X.env X.xe) (hk : X.env.scope.kind = .function) (c : CF X N_own_terms (defScope st_own_terms) (fun _ => true)) : PSsX X W M_own_terms .sh (defBody st_own_terms) den_own_terms :=
    (pssx_one (psx_ret (PX.sh (px_if (pxt_b (px_is .str (c.gl (by decide +kernel)) T.n_isinstance rfl (c.gl (by decide +kernel)) T.n_str (wv c (i := 0) rfl rfl (by decide +kernel)))) (px_tup pxa_nil) (px_sl (wv c (i := 0) rfl rfl (by decide +kernel)) (pxo_so px_int) pxo_no)))))
theorem ok_own_terms (T : Tx K w mg)  : FnX P w K mg base 1 "own_terms" P_own_terms .sh m_own_terms := by
  unfold m_own_terms
  exact fnx_of (N := N_own_terms) (M := M_own_terms) (body := den_own_terms) T.d_own_terms sc_own_terms rfl rfl rfl (by decide) (fun _ _ _ _ _ _ us hl => match us, hl with | [_], _ => rfl) (fun X W eP ew eK em eb hr tk hp hk c => by
      subst eP; subst ew; subst eK; subst em; subst eb
      exact bd_own_terms T  hr tk hp hk c)
theorem bd_all_parts {X : Cx} {W : WX} {j : Nat} {self : FDen} (T : Tx X.K X.w X.mg) (h_own_terms : FnX X.prog X.w X.K X.mg X.base 1 "own_terms" P_own_terms .sh m_own_terms) (ih : FnX X.prog X.w X.K X.mg X.base (1 + j) "all_parts" P_all_parts .fr self) (hr : Room (1 + j) X.A) (tk : Takes X W) (hp : PassesOwn (model X.prog X.w) X.A X.env X.xe) (hk : X.env.scope.kind = .function) (c : CF X N_all_parts (defScope st_all_parts) (fun _ => true)) : PSsX X W M_all_parts .fr (defBody st_all_parts) (den_all_parts self) :=
    (pssx_cons (wsetO c (i := 1) rfl rfl (by decide +kernel) (px_lst (pxa_cons (wv c (i := 0) rfl rfl (by decide +kernel)) pxa_nil)))
    (pssx_cons (psx_for hp c.calm (pix_seq (bb := true) (wcall c h_own_terms hr (by omega) tk (by decide +kernel) rfl (pxa_cons (wv c (i := 0) rfl rfl (by decide +kernel)) pxa_nil) (gl_cons gl_nil))) (wtg c (i := 2) rfl rfl (by decide +kernel)) (pssx_one (wext c (i := 1) rfl rfl rfl (by decide +kernel) (PX.sh (wcall c ih hr (Nat.le_refl _) tk (by decide +kernel) rfl (pxa_cons (wv c (i := 2) rfl rfl (by decide +kernel)) pxa_nil) (gl_cons gl_nil))))))
    (pssx_one (psx_ret (wtake c (i := 1) rfl rfl (by decide +kernel))))))
theorem ok_all_parts (T : Tx K w mg) (h_own_terms : FnX P w K mg base 1 "own_terms" P_own_terms .sh m_own_terms) : ∀ j : Nat, FnX P w K mg base (1 + j) "all_parts" P_all_parts .fr (m_all_parts j)
  | 0 => by
    rw [m_all_parts_z]
    exact fnx_bad T.d_all_parts sc_all_parts rfl (fun _ _ _ _ _ _ us hl => match us, hl with | [_], _ => rfl)
  | j + 1 => by
    have ih := ok_all_parts T h_own_terms j
    rw [m_all_parts_s]
    exact fnx_of (N := N_all_parts) (M := M_all_parts) (body := den_all_parts (m_all_parts j)) T.d_all_parts sc_all_parts rfl rfl rfl (by decide) (fun _ _ _ _ _ _ us hl => match us, hl with | [_], _ => rfl) (fun X W eP ew eK em eb hr tk hp hk c => by
      subst eP; subst ew; subst eK; subst em; subst eb
      exact bd_all_parts T h_own_terms ih hr tk hp hk c)
theorem bd_by_texts {X : Cx} {W : WX} (T : Tx X.K X.w X.mg) (h_text_of : FnX X.prog X.w X.K X.mg X.base 6 "text_of" P_text_of .fr (m_text_of 6)) (hr : Room (6) X.A) (tk : Takes X W) (hp : PassesOwn (model X.prog X.w) X.A X.env X.xe) (hk : X.env.scope.kind = .function) (c : CF X N_by_texts (defScope st_by_texts) (fun _ => true)) : PSsX X W M_by_texts .fr (defBody st_by_texts) den_by_texts :=
    (pssx_cons (wset c (i := 1) rfl rfl (by decide +kernel) (PX.sh (px_dcF c (pix_seq (bb := true) (wv c (i := 0) rfl rfl (by decide +kernel))) (own := [("term", 2)]) (by decide +kernel) (by decide) (by decide) (fun b3 => have c3 := CF.blk c _ b3; (wtg c3 (i := 2) rfl rfl (by decide +kernel))) (fun _ => pxts_nil) (fun b4 => have c4 := CF.blk c _ b4; (PX.sh (wcall c4 h_text_of hr (by decide) takes0 (by decide +kernel) rfl (pxa_cons (wv c4 (i := 2) rfl rfl (by decide +kernel)) pxa_nil) (gl_cons gl_nil)))) (fun b5 => have c5 := CF.blk c _ b5; (wv c5 (i := 2) rfl rfl (by decide +kernel))))) (sw_cell c (by decide +kernel)))
    (pssx_one (psx_ret (px_callT cd_tuple (c.gl (by decide +kernel)) T.n_tuple bt_tuple (PX.frow (px_lc c (pix_seq (bb := true) (PX.sh (px_callB (cd_sorted c.calm c.un) (c.gl (by decide +kernel)) T.n_sorted bt_sorted (PX.ow (wv c (i := 1) rfl rfl (by decide +kernel)))))) (own := [("text", 3)]) (by decide +kernel) (by decide) (by decide) (fun b1 => have c1 := CF.blk c _ b1; (wtg c1 (i := 3) rfl rfl (by decide +kernel))) (fun _ => pxts_nil) (fun b2 => have c2 := CF.blk c _ b2; (px_dget c2.u1 (wv c2 (i := 1) rfl rfl (by decide +kernel)) (PX.ow (wv c2 (i := 3) rfl rfl (by decide +kernel))) (fun _ _ => rfl)))))))))
theorem ok_by_texts (T : Tx K w mg) (h_text_of : FnX P w K mg base 6 "text_of" P_text_of .fr (m_text_of 6)) : FnX P w K mg base 7 "by_texts" P_by_texts .fr m_by_texts := by
  unfold m_by_texts
  exact fnx_of (N := N_by_texts) (M := M_by_texts) (body := den_by_texts) T.d_by_texts sc_by_texts rfl rfl rfl (by decide) (fun _ _ _ _ _ _ us hl => match us, hl with | [_], _ => rfl) (fun X W eP ew eK em eb hr tk hp hk c => by
      subst eP; subst ew; subst eK; subst em; subst eb
      exact bd_by_texts T h_text_of hr tk hp hk c)
theorem bd_terms_by {X : Cx} {W : WX} (T : Tx X.K X.w X.mg) (h_by_texts : FnX X.prog X.w X.K X.mg X.base 7 "by_texts" P_by_texts .fr m_by_texts) (h_all_parts : FnX X.prog X.w X.K X.mg X.base 7 "all_parts" P_all_parts .fr (m_all_parts 6)) (hr : Room (7) X.A) (tk : Takes X W) (hp : PassesOwn (model X.prog X.w) X.A X.env X.xe) (hk : X.env.scope.kind = .function) (c : CF X N_terms_by (defScope st_terms_by) (fun _ => true)) : PSsX X W M_terms_by .fr (defBody st_terms_by) den_terms_by :=
    (pssx_one (psx_ret (wcall c h_by_texts hr (by decide) tk (by decide +kernel) rfl (pxa_cons (PX.sh (px_op od_add (PX.sh (px_lc c (pix_seq (bb := true) (wv c (i := 0) rfl rfl (by decide +kernel))) (own := [("name", 4), ("places", 5)]) (by decide +kernel) (by decide) (by decide) (fun b5 => have c5 := CF.blk c _ b5; (pgx_tup c5.calm (pgsx_cons (wtg c5 (i := 4) rfl rfl (by decide +kernel)) (pgsx_cons (wtg c5 (i := 5) rfl rfl (by decide +kernel)) pgsx_nil)) (tl_cons (tl_cons tl_nil)))) (fun _ => pxts_nil) (fun b6 => have c6 := CF.blk c _ b6; (wv c6 (i := 4) rfl rfl (by decide +kernel))))) (PX.frow (px_lc2 c (pix_seq (bb := true) (wv c (i := 1) rfl rfl (by decide +kernel))) (own := [("term", 2), ("part", 3)]) (by decide +kernel) (by decide) (by decide) (by decide) (fun b1 => have c1 := CF.blk c _ b1; (wtg c1 (i := 2) rfl rfl (by decide +kernel))) (fun _ => pxts_nil) (fun b3 => have c3 := CF.blk c _ b3; (pix_seq (bb := true) (PX.sh (wcall c3 h_all_parts hr (by decide) takes0 (by decide +kernel) rfl (pxa_cons (wv c3 (i := 2) rfl rfl (by decide +kernel)) pxa_nil) (gl_cons gl_nil))))) (fun b4 => have c4 := CF.blk c _ b4; (wtg c4 (i := 3) rfl rfl (by decide +kernel))) (fun _ => pxts_nil) (fun b2 => have c2 := CF.blk c _ b2; (wv c2 (i := 3) rfl rfl (by decide +kernel))))))) pxa_nil) (gl_cons gl_nil))))
theorem ok_terms_by (T : Tx K w mg) (h_by_texts : FnX P w K mg base 7 "by_texts" P_by_texts .fr m_by_texts) (h_all_parts : FnX P w K mg base 7 "all_parts" P_all_parts .fr (m_all_parts 6)) : FnX P w K mg base 8 "terms_by" P_terms_by .fr m_terms_by := by
  unfold m_terms_by
  exact fnx_of (N := N_terms_by) (M := M_terms_by) (body := den_terms_by) T.d_terms_by sc_terms_by rfl rfl rfl (by decide) (fun _ _ _ _ _ _ us hl => match us, hl with | [_, _], _ => rfl) (fun X W eP ew eK em eb hr tk hp hk c => by
      subst eP; subst ew; subst eK; subst em; subst eb
      exact bd_terms_by T h_by_texts h_all_parts hr tk hp hk c)
theorem bd_unknown_rows {X : Cx} {W : WX} (T : Tx X.K X.w X.mg)  (hr : Room (0) X.A) (tk : Takes X W) (hp : PassesOwn (model X.prog X.w) X.A X.env X.xe) (hk : X.env.scope.kind = .function) (c : CF X N_unknown_rows (defScope st_unknown_rows) (fun _ => true)) : PSsX X W M_unknown_rows .sh (defBody st_unknown_rows) den_unknown_rows :=
    (pssx_cons (wset c (i := 2) rfl rfl (by decide +kernel) (PX.sh (px_lst (pxa_cons (px_tup pxa_nil) pxa_nil))))
    (pssx_cons (psx_for hp c.calm (pix_rng1 (bb := true) (c.gl (by decide +kernel)) T.n_range (wv c (i := 1) rfl rfl (by decide +kernel))) (wtg c (i := 3) rfl rfl (by decide +kernel)) (pssx_one (wsetLC2 c (i := 2) rfl rfl (by decide +kernel) hk rfl (by decide +kernel) (pix_seq (bb := true) (wv c (i := 2) rfl rfl (by decide +kernel))) (own := [("row", 4), ("one", 5)]) (by decide +kernel) (by decide) (by decide) (by decide) (fun b1 => have c1 := CF.blk c _ b1; (wtg c1 (i := 4) rfl rfl (by decide +kernel))) (fun _ => pxts_nil) (fun b3 => have c3 := CF.blk c _ b3; (pix_rng1 (bb := true) (c3.gl (by decide +kernel)) T.n_range (wv c3 (i := 0) rfl rfl (by decide +kernel)))) (fun b4 => have c4 := CF.blk c _ b4; (wtg c4 (i := 5) rfl rfl (by decide +kernel))) (fun _ => pxts_nil) (fun b2 => have c2 := CF.blk c _ b2; (PX.sh (px_op od_add (wv c2 (i := 4) rfl rfl (by decide +kernel)) (px_tup (pxa_cons (wv c2 (i := 5) rfl rfl (by decide +kernel)) pxa_nil))))))))
    (pssx_one (psx_ret (wv c (i := 2) rfl rfl (by decide +kernel))))))
theorem ok_unknown_rows (T : Tx K w mg)  : FnX P w K mg base 1 "unknown_rows" P_unknown_rows .sh m_unknown_rows := by
  unfold m_unknown_rows
  exact fnx_of (N := N_unknown_rows) (M := M_unknown_rows) (body := den_unknown_rows) T.d_unknown_rows sc_unknown_rows rfl rfl rfl (by decide) (fun _ _ _ _ _ _ us hl => match us, hl with | [_, _], _ => rfl) (fun X W eP ew eK em eb hr tk hp hk c => by
      subst eP; subst ew; subst eK; subst em; subst eb
      exact bd_unknown_rows T  hr tk hp hk c)
theorem bd_many_atoms {X : Cx} {W : WX} (T : Tx X.K X.w X.mg) (h_unknown_rows : FnX X.prog X.w X.K X.mg X.base 1 "unknown_rows" P_unknown_rows .sh m_unknown_rows) (h_places_in : FnX X.prog X.w X.K X.mg X.base 7 "places_in" P_places_in .fr m_places_in) (hr : Room (7) X.A) (tk : Takes X W) (hp : PassesOwn (model X.prog X.w) X.A X.env X.xe) (hk : X.env.scope.kind = .function) (c : CF X N_many_atoms (defScope st_many_atoms) (fun _ => true)) : PSsX X W M_many_atoms .fr (defBody st_many_atoms) den_many_atoms :=
    (pssx_one (psx_ret (px_callB (cd_sum c.calm) (c.gl (by decide +kernel)) T.n_sum bt_sum (PX.frow (px_lc c (pix_seq (bb := true) (wv c (i := 1) rfl rfl (by decide +kernel))) (own := [("term", 3)]) (by decide +kernel) (by decide) (by decide) (fun b1 => have c1 := CF.blk c _ b1; (wtg c1 (i := 3) rfl rfl (by decide +kernel))) (fun _ => pxts_nil) (fun b2 => have c2 := CF.blk c _ b2; (px_callB cd_len (c2.gl (by decide +kernel)) T.n_len bt_len (PX.ow (wcall c2 h_unknown_rows hr (by decide) takes0 (by decide +kernel) rfl (pxa_cons (wv c2 (i := 2) rfl rfl (by decide +kernel)) (pxa_cons (PX.sh (wcall c2 h_places_in hr (by decide) takes0 (by decide +kernel) rfl (pxa_cons (wv c2 (i := 0) rfl rfl (by decide +kernel)) (pxa_cons (wv c2 (i := 3) rfl rfl (by decide +kernel)) pxa_nil)) (gl_cons (gl_cons gl_nil)))) pxa_nil)) (gl_cons (gl_cons gl_nil)))))))))))
theorem ok_many_atoms (T : Tx K w mg) (h_unknown_rows : FnX P w K mg base 1 "unknown_rows" P_unknown_rows .sh m_unknown_rows) (h_places_in : FnX P w K mg base 7 "places_in" P_places_in .fr m_places_in) : FnX P w K mg base 8 "many_atoms" P_many_atoms .fr m_many_atoms := by
  unfold m_many_atoms
  exact fnx_of (N := N_many_atoms) (M := M_many_atoms) (body := den_many_atoms) T.d_many_atoms sc_many_atoms rfl rfl rfl (by decide) (fun _ _ _ _ _ _ us hl => match us, hl with | [_, _, _], _ => rfl) (fun X W eP ew eK em eb hr tk hp hk c => by
      subst eP; subst ew; subst eK; subst em; subst eb
      exact bd_many_atoms T h_unknown_rows h_places_in hr tk hp hk c)
theorem bd_are_shown {X : Cx} {W : WX} (T : Tx X.K X.w X.mg) (h_by_texts : FnX X.prog X.w X.K X.mg X.base 7 "by_texts" P_by_texts .fr m_by_texts) (h_places_in : FnX X.prog X.w X.K X.mg X.base 7 "places_in" P_places_in .fr m_places_in) (hr : Room (7) X.A) (tk : Takes X W) (hp : PassesOwn (model X.prog X.w) X.A X.env X.xe) (hk : X.env.scope.kind = .function) (c : CF X N_are_shown (defScope st_are_shown) (fun _ => true)) : PSsX X W M_are_shown .fr (defBody st_are_shown) den_are_shown :=
    (pssx_cons (psx_if (PXW.t (pxw_or (pxt_not (pxt_b (px_is .tuple (c.gl (by decide +kernel)) T.n_isinstance rfl (c.gl (by decide +kernel)) T.n_tuple (wv c (i := 1) rfl rfl (by decide +kernel))))) (pxw_or1 (pxt_not (pxt_chain od_le od_le px_int (px_callB cd_len (c.gl (by decide +kernel)) T.n_len bt_len (PX.ow (wv c (i := 1) rfl rfl (by decide +kernel)))) (wconI c T.c_MOST_TERMS (by decide +kernel)))))))
    (pssx_one (psx_ret px_bl))
    pssx_nil)
    (pssx_cons (psx_if (pxt_not (pxt_b (px_callB (cd_all c.calm) (c.gl (by decide +kernel)) T.n_all bt_all (PX.frow (px_lc c (pix_seq (bb := true) (wv c (i := 1) rfl rfl (by decide +kernel))) (own := [("term", 2)]) (by decide +kernel) (by decide) (by decide) (fun b1 => have c1 := CF.blk c _ b1; (wtg c1 (i := 2) rfl rfl (by decide +kernel))) (fun _ => pxts_nil) (fun b2 => have c2 := CF.blk c _ b2; (px_cmp od_notN (PX.sh (wcall c2 h_places_in hr (by decide) takes0 (by decide +kernel) rfl (pxa_cons (wv c2 (i := 0) rfl rfl (by decide +kernel)) (pxa_cons (wv c2 (i := 2) rfl rfl (by decide +kernel)) pxa_nil)) (gl_cons (gl_cons gl_nil)))) px_non (nomark _))))))))
    (pssx_one (psx_ret px_bl))
    pssx_nil)
    (pssx_one (psx_ret (px_cmp (od_eq c.un) (px_callB cd_len (c.gl (by decide +kernel)) T.n_len bt_len (PX.frow (wcall c h_by_texts hr (by decide) tk (by decide +kernel) rfl (pxa_cons (wv c (i := 1) rfl rfl (by decide +kernel)) pxa_nil) (gl_cons gl_nil)))) (px_callB cd_len (c.gl (by decide +kernel)) T.n_len bt_len (PX.ow (wv c (i := 1) rfl rfl (by decide +kernel)))) (nomark _))))))
theorem ok_are_shown (T : Tx K w mg) (h_by_texts : FnX P w K mg base 7 "by_texts" P_by_texts .fr m_by_texts) (h_places_in : FnX P w K mg base 7 "places_in" P_places_in .fr m_places_in) : FnX P w K mg base 8 "are_shown" P_are_shown .fr m_are_shown := by
  unfold m_are_shown
  exact fnx_of (N := N_are_shown) (M := M_are_shown) (body := den_are_shown) T.d_are_shown sc_are_shown rfl rfl rfl (by decide) (fun _ _ _ _ _ _ us hl => match us, hl with | [_, _], _ => rfl) (fun X W eP ew eK em eb hr tk hp hk c => by
      subst eP; subst ew; subst eK; subst em; subst eb
      exact bd_are_shown T h_by_texts h_places_in hr tk hp hk c)
theorem bd_is_field {X : Cx} {W : WX} (T : Tx X.K X.w X.mg) (h_many_atoms : FnX X.prog X.w X.K X.mg X.base 8 "many_atoms" P_many_atoms .fr m_many_atoms) (h_is_notions : FnX X.prog X.w X.K X.mg X.base 3 "is_notions" P_is_notions .fr m_is_notions) (h_are_shown : FnX X.prog X.w X.K X.mg X.base 8 "are_shown" P_are_shown .fr m_are_shown) (h_is_within : FnX X.prog X.w X.K X.mg X.base 1 "is_within" P_is_within .fr m_is_within) (h_terms_by : FnX X.prog X.w X.K X.mg X.base 8 "terms_by" P_terms_by .fr m_terms_by) (hr : Room (8) X.A) (tk : Takes X W) (hp : PassesOwn (model X.prog X.w) X.A X.env X.xe) (hk : X.env.scope.kind = .function) (c : CF X N_is_field (defScope st_is_field) (fun _ => true)) : PSsX X W M_is_field .fr (defBody st_is_field) den_is_field :=
    (pssx_cons (psx_if (PXW.t (pxw_or (pxt_not (pxt_b (px_is .tuple (c.gl (by decide +kernel)) T.n_isinstance rfl (c.gl (by decide +kernel)) T.n_tuple (wv c (i := 0) rfl rfl (by decide +kernel))))) (pxw_or1 (pxt_cmp (od_ne c.un) (px_callB cd_len (c.gl (by decide +kernel)) T.n_len bt_len (PX.ow (wv c (i := 0) rfl rfl (by decide +kernel)))) px_int (nomark _)))))
    (pssx_one (psx_ret px_bl))
    pssx_nil)
    (pssx_cons (psx_asg (wv c (i := 0) rfl rfl (by decide +kernel)) (pgx_tup c.calm (pgsx_cons (wtg c (i := 1) rfl rfl (by decide +kernel)) (pgsx_cons (wtg c (i := 2) rfl rfl (by decide +kernel)) (pgsx_cons (wtg c (i := 3) rfl rfl (by decide +kernel)) pgsx_nil))) (tl_cons (tl_cons (tl_cons tl_nil)))))
    (pssx_cons (psx_if (PXW.t (pxw_or (pxt_not (pxt_b (PX.frow (wcall c h_is_notions hr (by decide) tk (by decide +kernel) rfl (pxa_cons (wv c (i := 1) rfl rfl (by decide +kernel)) pxa_nil) (gl_cons gl_nil))))) (pxw_or (pxt_not (pxt_b (PX.frow (wcall c h_are_shown hr (by decide) tk (by decide +kernel) rfl (pxa_cons (wv c (i := 1) rfl rfl (by decide +kernel)) (pxa_cons (wv c (i := 2) rfl rfl (by decide +kernel)) pxa_nil)) (gl_cons (gl_cons gl_nil)))))) (pxw_or1 (pxt_not (pxt_b (PX.frow (wcall c h_is_within hr (by decide) tk (by decide +kernel) rfl (pxa_cons (wv c (i := 3) rfl rfl (by decide +kernel)) (pxa_cons px_int (pxa_cons (wconI c T.c_MOST_UNKNOWNS (by decide +kernel)) pxa_nil))) (gl_cons (gl_cons (gl_cons gl_nil)))))))))))
    (pssx_one (psx_ret px_bl))
    pssx_nil)
    (pssx_cons (psx_if (pxt_cmp od_gt (PX.sh (wcall c h_many_atoms hr (by decide) tk (by decide +kernel) rfl (pxa_cons (wv c (i := 1) rfl rfl (by decide +kernel)) (pxa_cons (wv c (i := 2) rfl rfl (by decide +kernel)) (pxa_cons (wv c (i := 3) rfl rfl (by decide +kernel)) pxa_nil))) (gl_cons (gl_cons (gl_cons gl_nil))))) (wconI c T.c_MOST_SHOWN (by decide +kernel)) (nomark _))
    (pssx_one (psx_ret px_bl))
    pssx_nil)
    (pssx_one (psx_ret (px_cmp od_le (PX.sh (wcall c h_many_atoms hr (by decide) tk (by decide +kernel) rfl (pxa_cons (wv c (i := 1) rfl rfl (by decide +kernel)) (pxa_cons (PX.sh (wcall c h_terms_by hr (by decide) tk (by decide +kernel) rfl (pxa_cons (wv c (i := 1) rfl rfl (by decide +kernel)) (pxa_cons (wv c (i := 2) rfl rfl (by decide +kernel)) pxa_nil)) (gl_cons (gl_cons gl_nil)))) (pxa_cons (wv c (i := 3) rfl rfl (by decide +kernel)) pxa_nil))) (gl_cons (gl_cons (gl_cons gl_nil))))) (wconI c T.c_MOST_ATOMS (by decide +kernel)) (nomark _))))))))
theorem ok_is_field (T : Tx K w mg) (h_many_atoms : FnX P w K mg base 8 "many_atoms" P_many_atoms .fr m_many_atoms) (h_is_notions : FnX P w K mg base 3 "is_notions" P_is_notions .fr m_is_notions) (h_are_shown : FnX P w K mg base 8 "are_shown" P_are_shown .fr m_are_shown) (h_is_within : FnX P w K mg base 1 "is_within" P_is_within .fr m_is_within) (h_terms_by : FnX P w K mg base 8 "terms_by" P_terms_by .fr m_terms_by) : FnX P w K mg base 9 "is_field" P_is_field .fr m_is_field := by
  unfold m_is_field
  exact fnx_of (N := N_is_field) (M := M_is_field) (body := den_is_field) T.d_is_field sc_is_field rfl rfl rfl (by decide) (fun _ _ _ _ _ _ us hl => match us, hl with | [_], _ => rfl) (fun X W eP ew eK em eb hr tk hp hk c => by
      subst eP; subst ew; subst eK; subst em; subst eb
      exact bd_is_field T h_many_atoms h_is_notions h_are_shown h_is_within h_terms_by hr tk hp hk c)
theorem bd_need_field {X : Cx} {W : WX} (T : Tx X.K X.w X.mg) (h_is_field : FnX X.prog X.w X.K X.mg X.base 9 "is_field" P_is_field .fr m_is_field) (hr : Room (9) X.A) (tk : Takes X W) (hp : PassesOwn (model X.prog X.w) X.A X.env X.xe) (hk : X.env.scope.kind = .function) (c : CF X N_need_field (defScope st_need_field) (fun _ => true)) : PSsX X W M_need_field .fr (defBody st_need_field) den_need_field :=
    (pssx_one (psx_if (pxt_not (pxt_b (PX.frow (wcall c h_is_field hr (by decide) tk (by decide +kernel) rfl (pxa_cons (wv c (i := 0) rfl rfl (by decide +kernel)) pxa_nil) (gl_cons gl_nil)))))
    (pssx_one psx_never)
    pssx_nil))
theorem ok_need_field (T : Tx K w mg) (h_is_field : FnX P w K mg base 9 "is_field" P_is_field .fr m_is_field) : FnX P w K mg base 10 "need_field" P_need_field .fr m_need_field := by
  unfold m_need_field
  exact fnx_of (N := N_need_field) (M := M_need_field) (body := den_need_field) T.d_need_field sc_need_field rfl rfl rfl (by decide) (fun _ _ _ _ _ _ us hl => match us, hl with | [_], _ => rfl) (fun X W eP ew eK em eb hr tk hp hk c => by
      subst eP; subst ew; subst eK; subst em; subst eb
      exact bd_need_field T h_is_field hr tk hp hk c)
theorem bd_terms_in {X : Cx} {W : WX} (T : Tx X.K X.w X.mg) (h_terms_by : FnX X.prog X.w X.K X.mg X.base 8 "terms_by" P_terms_by .fr m_terms_by) (hr : Room (8) X.A) (tk : Takes X W) (hp : PassesOwn (model X.prog X.w) X.A X.env X.xe) (hk : X.env.scope.kind = .function) (c : CF X N_terms_in (defScope st_terms_in) (fun _ => true)) : PSsX X W M_terms_in .fr (defBody st_terms_in) den_terms_in :=
    (pssx_cons (psx_asg (wv c (i := 0) rfl rfl (by decide +kernel)) (pgx_tup c.calm (pgsx_cons (wtg c (i := 1) rfl rfl (by decide +kernel)) (pgsx_cons (wtg c (i := 2) rfl rfl (by decide +kernel)) (pgsx_cons (wtg c (i := 3) rfl rfl (by decide +kernel)) pgsx_nil))) (tl_cons (tl_cons (tl_cons tl_nil)))))
    (pssx_one (psx_ret (wcall c h_terms_by hr (by decide) tk (by decide +kernel) rfl (pxa_cons (wv c (i := 1) rfl rfl (by decide +kernel)) (pxa_cons (wv c (i := 2) rfl rfl (by decide +kernel)) pxa_nil)) (gl_cons (gl_cons gl_nil))))))
theorem ok_terms_in (T : Tx K w mg) (h_terms_by : FnX P w K mg base 8 "terms_by" P_terms_by .fr m_terms_by) : FnX P w K mg base 9 "terms_in" P_terms_in .fr m_terms_in := by
  unfold m_terms_in
  exact fnx_of (N := N_terms_in) (M := M_terms_in) (body := den_terms_in) T.d_terms_in sc_terms_in rfl rfl rfl (by decide) (fun _ _ _ _ _ _ us hl => match us, hl with | [_], _ => rfl) (fun X W eP ew eK em eb hr tk hp hk c => by
      subst eP; subst ew; subst eK; subst em; subst eb
      exact bd_terms_in T h_terms_by hr tk hp hk c)
theorem bd_atoms_in {X : Cx} {W : WX} (T : Tx X.K X.w X.mg) (h_terms_in : FnX X.prog X.w X.K X.mg X.base 9 "terms_in" P_terms_in .fr m_terms_in) (h_unknown_rows : FnX X.prog X.w X.K X.mg X.base 1 "unknown_rows" P_unknown_rows .sh m_unknown_rows) (h_places_in : FnX X.prog X.w X.K X.mg X.base 7 "places_in" P_places_in .fr m_places_in) (hr : Room (9) X.A) (tk : Takes X W) (hp : PassesOwn (model X.prog X.w) X.A X.env X.xe) (hk : X.env.scope.kind = .function) (c : CF X N_atoms_in (defScope st_atoms_in) (fun _ => true)) : PSsX X W M_atoms_in .fr (defBody st_atoms_in) den_atoms_in :=
    (pssx_cons (psx_asg (wv c (i := 0) rfl rfl (by decide +kernel)) (pgx_tup c.calm (pgsx_cons (wtg c (i := 3) rfl rfl (by decide +kernel)) (pgsx_cons (wtg c (i := 4) rfl rfl (by decide +kernel)) (pgsx_cons (wtg c (i := 5) rfl rfl (by decide +kernel)) pgsx_nil))) (tl_cons (tl_cons (tl_cons tl_nil)))))
    (pssx_cons (wsetLC c (i := 2) rfl rfl (by decide +kernel) hk rfl (by decide +kernel) (pix_seq (bb := true) (PX.sh (wcall c h_terms_in hr (by decide) tk (by decide +kernel) rfl (pxa_cons (wv c (i := 0) rfl rfl (by decide +kernel)) pxa_nil) (gl_cons gl_nil)))) (own := [("term", 6)]) (by decide +kernel) (by decide) (by decide) (fun b5 => have c5 := CF.blk c _ b5; (wtg c5 (i := 6) rfl rfl (by decide +kernel))) (fun b6 => have c6 := CF.blk c _ b6; (pxts_one (PXW.t (pxw_or (pxt_not (pxt_b (PX.ow (wv c6 (i := 1) rfl rfl (by decide +kernel))))) (pxw_or1 (pxt_cmp (od_in c6.un) (wv c6 (i := 6) rfl rfl (by decide +kernel)) (PX.ow (wv c6 (i := 4) rfl rfl (by decide +kernel))) (by with_unfolding_all rfl))))))) (fun b7 => have c7 := CF.blk c _ b7; (wv c7 (i := 6) rfl rfl (by decide +kernel))))
    (pssx_one (psx_ret (px_callT cd_tuple (c.gl (by decide +kernel)) T.n_tuple bt_tuple (PX.frow (px_lc2 c (pix_seq (bb := true) (wv c (i := 2) rfl rfl (by decide +kernel))) (own := [("term", 6), ("row", 7)]) (by decide +kernel) (by decide) (by decide) (by decide) (fun b1 => have c1 := CF.blk c _ b1; (wtg c1 (i := 6) rfl rfl (by decide +kernel))) (fun _ => pxts_nil) (fun b3 => have c3 := CF.blk c _ b3; (pix_seq (bb := true) (wcall c3 h_unknown_rows hr (by decide) takes0 (by decide +kernel) rfl (pxa_cons (wv c3 (i := 5) rfl rfl (by decide +kernel)) (pxa_cons (PX.sh (wcall c3 h_places_in hr (by decide) takes0 (by decide +kernel) rfl (pxa_cons (wv c3 (i := 3) rfl rfl (by decide +kernel)) (pxa_cons (wv c3 (i := 6) rfl rfl (by decide +kernel)) pxa_nil)) (gl_cons (gl_cons gl_nil)))) pxa_nil)) (gl_cons (gl_cons gl_nil))))) (fun b4 => have c4 := CF.blk c _ b4; (wtg c4 (i := 7) rfl rfl (by decide +kernel))) (fun _ => pxts_nil) (fun b2 => have c2 := CF.blk c _ b2; (px_tup (pxa_cons (wv c2 (i := 6) rfl rfl (by decide +kernel)) (pxa_cons (wv c2 (i := 7) rfl rfl (by decide +kernel)) pxa_nil)))))))))))
theorem ok_atoms_in (T : Tx K w mg) (h_terms_in : FnX P w K mg base 9 "terms_in" P_terms_in .fr m_terms_in) (h_unknown_rows : FnX P w K mg base 1 "unknown_rows" P_unknown_rows .sh m_unknown_rows) (h_places_in : FnX P w K mg base 7 "places_in" P_places_in .fr m_places_in) : FnX P w K mg base 10 "atoms_in" P_atoms_in .fr m_atoms_in := by
  unfold m_atoms_in
  exact fnx_of (N := N_atoms_in) (M := M_atoms_in) (body := den_atoms_in) T.d_atoms_in sc_atoms_in rfl rfl rfl (by decide) (fun _ _ _ _ _ _ us hl => match us, hl with | [_, _], _ => rfl) (fun X W eP ew eK em eb hr tk hp hk c => by
      subst eP; subst ew; subst eK; subst em; subst eb
      exact bd_atoms_in T h_terms_in h_unknown_rows h_places_in hr tk hp hk c)
theorem bd_numbers_in {X : Cx} {W : WX} (T : Tx X.K X.w X.mg) (h_atoms_in : FnX X.prog X.w X.K X.mg X.base 10 "atoms_in" P_atoms_in .fr m_atoms_in) (hr : Room (10) X.A) (tk : Takes X W) (hp : PassesOwn (model X.prog X.w) X.A X.env X.xe) (hk : X.env.scope.kind = .function) (c : CF X N_numbers_in (defScope st_numbers_in) (fun _ => true)) : PSsX X W M_numbers_in .fr (defBody st_numbers_in) den_numbers_in :=
    (pssx_one (psx_ret (px_dcN c (pix_enum (c.gl (by decide +kernel)) T.n_enumerate (PX.sh (wcall c h_atoms_in hr (by decide) tk (by decide +kernel) rfl (pxa_cons (wv c (i := 0) rfl rfl (by decide +kernel)) (pxa_cons px_bl pxa_nil)) (gl_cons (gl_cons gl_nil))))) (own := [("number", 1), ("atom", 2)]) (by decide +kernel) (by decide) (by decide) (fun b1 => have c1 := CF.blk c _ b1; (pgx_tup c1.calm (pgsx_cons (wtg c1 (i := 1) rfl rfl (by decide +kernel)) (pgsx_cons (wtg c1 (i := 2) rfl rfl (by decide +kernel)) pgsx_nil)) (tl_cons (tl_cons tl_nil)))) (fun _ => pxts_nil) (fun b2 => have c2 := CF.blk c _ b2; (wv c2 (i := 2) rfl rfl (by decide +kernel))) (fun b3 => have c3 := CF.blk c _ b3; (wv c3 (i := 1) rfl rfl (by decide +kernel))))))
theorem ok_numbers_in (T : Tx K w mg) (h_atoms_in : FnX P w K mg base 10 "atoms_in" P_atoms_in .fr m_atoms_in) : FnX P w K mg base 11 "numbers_in" P_numbers_in .fr m_numbers_in := by
  unfold m_numbers_in
  exact fnx_of (N := N_numbers_in) (M := M_numbers_in) (body := den_numbers_in) T.d_numbers_in sc_numbers_in rfl rfl rfl (by decide) (fun _ _ _ _ _ _ us hl => match us, hl with | [_], _ => rfl) (fun X W eP ew eK em eb hr tk hp hk c => by
      subst eP; subst ew; subst eK; subst em; subst eb
      exact bd_numbers_in T h_atoms_in hr tk hp hk c)
theorem bd_is_atom_by {X : Cx} {W : WX} (T : Tx X.K X.w X.mg) (h_places_in : FnX X.prog X.w X.K X.mg X.base 7 "places_in" P_places_in .fr m_places_in) (h_is_within : FnX X.prog X.w X.K X.mg X.base 1 "is_within" P_is_within .fr m_is_within) (hr : Room (7) X.A) (tk : Takes X W) (hp : PassesOwn (model X.prog X.w) X.A X.env X.xe) (hk : X.env.scope.kind = .function) (c : CF X N_is_atom_by (defScope st_is_atom_by) (fun _ => true)) : PSsX X W M_is_atom_by .fr (defBody st_is_atom_by) den_is_atom_by :=
    (pssx_cons (psx_if (PXW.t (pxw_or (pxt_not (pxt_b (px_is .tuple (c.gl (by decide +kernel)) T.n_isinstance rfl (c.gl (by decide +kernel)) T.n_tuple (wv c (i := 2) rfl rfl (by decide +kernel))))) (pxw_or1 (pxt_cmp (od_ne c.un) (px_callB cd_len (c.gl (by decide +kernel)) T.n_len bt_len (PX.ow (wv c (i := 2) rfl rfl (by decide +kernel)))) px_int (nomark _)))))
    (pssx_one (psx_ret px_bl))
    pssx_nil)
    (pssx_cons (psx_asg (wv c (i := 2) rfl rfl (by decide +kernel)) (pgx_tup c.calm (pgsx_cons (wtg c (i := 3) rfl rfl (by decide +kernel)) (pgsx_cons (wtg c (i := 4) rfl rfl (by decide +kernel)) pgsx_nil)) (tl_cons (tl_cons tl_nil))))
    (pssx_cons (psx_asg (wv c (i := 0) rfl rfl (by decide +kernel)) (pgx_tup c.calm (pgsx_cons (wtg c (i := 5) rfl rfl (by decide +kernel)) (pgsx_cons (wtg c (i := 6) rfl rfl (by decide +kernel)) (pgsx_cons (wtg c (i := 7) rfl rfl (by decide +kernel)) pgsx_nil))) (tl_cons (tl_cons (tl_cons tl_nil)))))
    (pssx_cons (psx_if (PXW.t (pxw_or (pxt_not (pxt_b (px_is2 .str .tuple (c.gl (by decide +kernel)) T.n_isinstance rfl (c.gl (by decide +kernel)) T.n_str rfl (c.gl (by decide +kernel)) T.n_tuple (wv c (i := 3) rfl rfl (by decide +kernel))))) (pxw_or (pxt_cmp (od_notIn c.un) (wv c (i := 3) rfl rfl (by decide +kernel)) (PX.ow (wv c (i := 1) rfl rfl (by decide +kernel))) (by with_unfolding_all rfl)) (pxw_or1 (pxt_not (pxt_b (px_is .tuple (c.gl (by decide +kernel)) T.n_isinstance rfl (c.gl (by decide +kernel)) T.n_tuple (wv c (i := 4) rfl rfl (by decide +kernel)))))))))
    (pssx_one (psx_ret px_bl))
    pssx_nil)
    (pssx_one (psx_ret (px_and (px_cmp (od_eq c.un) (px_callB cd_len (c.gl (by decide +kernel)) T.n_len bt_len (PX.ow (wv c (i := 4) rfl rfl (by decide +kernel)))) (PX.frow (wcall c h_places_in hr (by decide) tk (by decide +kernel) rfl (pxa_cons (wv c (i := 5) rfl rfl (by decide +kernel)) (pxa_cons (wv c (i := 3) rfl rfl (by decide +kernel)) pxa_nil)) (gl_cons (gl_cons gl_nil)))) (nomark _)) (px_one (px_callB (cd_all c.calm) (c.gl (by decide +kernel)) T.n_all bt_all (PX.frow (px_lc c (pix_seq (bb := true) (wv c (i := 4) rfl rfl (by decide +kernel))) (own := [("one", 8)]) (by decide +kernel) (by decide) (by decide) (fun b1 => have c1 := CF.blk c _ b1; (wtg c1 (i := 8) rfl rfl (by decide +kernel))) (fun _ => pxts_nil) (fun b2 => have c2 := CF.blk c _ b2; (PX.sh (wcall c2 h_is_within hr (by decide) takes0 (by decide +kernel) rfl (pxa_cons (wv c2 (i := 8) rfl rfl (by decide +kernel)) (pxa_cons px_int (pxa_cons (px_op od_sub (wv c2 (i := 7) rfl rfl (by decide +kernel)) px_int) pxa_nil))) (gl_cons (gl_cons (gl_cons gl_nil)))))))))))))))))
theorem ok_is_atom_by (T : Tx K w mg) (h_places_in : FnX P w K mg base 7 "places_in" P_places_in .fr m_places_in) (h_is_within : FnX P w K mg base 1 "is_within" P_is_within .fr m_is_within) : FnX P w K mg base 8 "is_atom_by" P_is_atom_by .fr m_is_atom_by := by
  unfold m_is_atom_by
  exact fnx_of (N := N_is_atom_by) (M := M_is_atom_by) (body := den_is_atom_by) T.d_is_atom_by sc_is_atom_by rfl rfl rfl (by decide) (fun _ _ _ _ _ _ us hl => match us, hl with | [_, _, _], _ => rfl) (fun X W eP ew eK em eb hr tk hp hk c => by
      subst eP; subst ew; subst eK; subst em; subst eb
      exact bd_is_atom_by T h_places_in h_is_within hr tk hp hk c)
theorem bd_numbers_of {X : Cx} {W : WX} (T : Tx X.K X.w X.mg) (h_numbers_in : FnX X.prog X.w X.K X.mg X.base 11 "numbers_in" P_numbers_in .fr m_numbers_in) (hr : Room (11) X.A) (tk : Takes X W) (hp : PassesOwn (model X.prog X.w) X.A X.env X.xe) (hk : X.env.scope.kind = .function) (c : CF X N_numbers_of (defScope st_numbers_of) (fun _ => true)) : PSsX X W M_numbers_of .fr (defBody st_numbers_of) den_numbers_of :=
    (pssx_cons (wset c (i := 2) rfl rfl (by decide +kernel) (PX.sh (wcall c h_numbers_in hr (by decide) tk (by decide +kernel) rfl (pxa_cons (wv c (i := 0) rfl rfl (by decide +kernel)) pxa_nil) (gl_cons gl_nil))))
    (pssx_one (psx_ret (px_callT cd_tuple (c.gl (by decide +kernel)) T.n_tuple bt_tuple (PX.frow (px_lc c (pix_seq (bb := true) (wv c (i := 1) rfl rfl (by decide +kernel))) (own := [("atom", 3)]) (by decide +kernel) (by decide) (by decide) (fun b1 => have c1 := CF.blk c _ b1; (wtg c1 (i := 3) rfl rfl (by decide +kernel))) (fun _ => pxts_nil) (fun b2 => have c2 := CF.blk c _ b2; (px_nget c2.u100 (wv c2 (i := 2) rfl rfl (by decide +kernel)) (PX.ow (wv c2 (i := 3) rfl rfl (by decide +kernel))) (fun _ _ => rfl)))))))))
theorem ok_numbers_of (T : Tx K w mg) (h_numbers_in : FnX P w K mg base 11 "numbers_in" P_numbers_in .fr m_numbers_in) : FnX P w K mg base 12 "numbers_of" P_numbers_of .fr m_numbers_of := by
  unfold m_numbers_of
  exact fnx_of (N := N_numbers_of) (M := M_numbers_of) (body := den_numbers_of) T.d_numbers_of sc_numbers_of rfl rfl rfl (by decide) (fun _ _ _ _ _ _ us hl => match us, hl with | [_, _], _ => rfl) (fun X W eP ew eK em eb hr tk hp hk c => by
      subst eP; subst ew; subst eK; subst em; subst eb
      exact bd_numbers_of T h_numbers_in hr tk hp hk c)
theorem bd_is_row_in {X : Cx} {W : WX} (T : Tx X.K X.w X.mg) (h_numbers_of : FnX X.prog X.w X.K X.mg X.base 12 "numbers_of" P_numbers_of .fr m_numbers_of) (h_terms_in : FnX X.prog X.w X.K X.mg X.base 9 "terms_in" P_terms_in .fr m_terms_in) (h_is_atom_by : FnX X.prog X.w X.K X.mg X.base 8 "is_atom_by" P_is_atom_by .fr m_is_atom_by) (hr : Room (12) X.A) (tk : Takes X W) (hp : PassesOwn (model X.prog X.w) X.A X.env X.xe) (hk : X.env.scope.kind = .function) (c : CF X N_is_row_in (defScope st_is_row_in) (fun _ => true)) : PSsX X W M_is_row_in .fr (defBody st_is_row_in) den_is_row_in :=
    (pssx_cons (psx_if (pxt_not (pxt_b (px_is .tuple (c.gl (by decide +kernel)) T.n_isinstance rfl (c.gl (by decide +kernel)) T.n_tuple (wv c (i := 1) rfl rfl (by decide +kernel)))))
    (pssx_one (psx_ret px_bl))
    pssx_nil)
    (pssx_cons (wset c (i := 3) rfl rfl (by decide +kernel) (px_if (pxt_b (PX.ow (wv c (i := 2) rfl rfl (by decide +kernel)))) (px_ix ixd (wv c (i := 0) rfl rfl (by decide +kernel)) px_int (fun _ _ => rfl)) (PX.sh (wcall c h_terms_in hr (by decide) tk (by decide +kernel) rfl (pxa_cons (wv c (i := 0) rfl rfl (by decide +kernel)) pxa_nil) (gl_cons gl_nil)))))
    (pssx_cons (psx_if (pxt_not (pxt_b (px_callB (cd_all c.calm) (c.gl (by decide +kernel)) T.n_all bt_all (PX.frow (px_lc c (pix_seq (bb := true) (wv c (i := 1) rfl rfl (by decide +kernel))) (own := [("atom", 5)]) (by decide +kernel) (by decide) (by decide) (fun b3 => have c3 := CF.blk c _ b3; (wtg c3 (i := 5) rfl rfl (by decide +kernel))) (fun _ => pxts_nil) (fun b4 => have c4 := CF.blk c _ b4; (PX.sh (wcall c4 h_is_atom_by hr (by decide) takes0 (by decide +kernel) rfl (pxa_cons (wv c4 (i := 0) rfl rfl (by decide +kernel)) (pxa_cons (wv c4 (i := 3) rfl rfl (by decide +kernel)) (pxa_cons (wv c4 (i := 5) rfl rfl (by decide +kernel)) pxa_nil))) (gl_cons (gl_cons (gl_cons gl_nil)))))))))))
    (pssx_one (psx_ret px_bl))
    pssx_nil)
    (pssx_cons (wset c (i := 4) rfl rfl (by decide +kernel) (PX.sh (wcall c h_numbers_of hr (by decide) tk (by decide +kernel) rfl (pxa_cons (wv c (i := 0) rfl rfl (by decide +kernel)) (pxa_cons (wv c (i := 1) rfl rfl (by decide +kernel)) pxa_nil)) (gl_cons (gl_cons gl_nil)))))
    (pssx_one (psx_ret (px_callB (cd_all c.calm) (c.gl (by decide +kernel)) T.n_all bt_all (PX.frow (px_lc c (pix_zip (c.gl (by decide +kernel)) T.n_zip (wv c (i := 4) rfl rfl (by decide +kernel)) (PX.sh (px_sl (wv c (i := 4) rfl rfl (by decide +kernel)) (pxo_so px_int) pxo_no))) (own := [("one", 6), ("other", 7)]) (by decide +kernel) (by decide) (by decide) (fun b1 => have c1 := CF.blk c _ b1; (pgx_tup c1.calm (pgsx_cons (wtg c1 (i := 6) rfl rfl (by decide +kernel)) (pgsx_cons (wtg c1 (i := 7) rfl rfl (by decide +kernel)) pgsx_nil)) (tl_cons (tl_cons tl_nil)))) (fun _ => pxts_nil) (fun b2 => have c2 := CF.blk c _ b2; (px_cmp od_lt (wv c2 (i := 6) rfl rfl (by decide +kernel)) (PX.ow (wv c2 (i := 7) rfl rfl (by decide +kernel))) (nomark _))))))))))))
theorem ok_is_row_in (T : Tx K w mg) (h_numbers_of : FnX P w K mg base 12 "numbers_of" P_numbers_of .fr m_numbers_of) (h_terms_in : FnX P w K mg base 9 "terms_in" P_terms_in .fr m_terms_in) (h_is_atom_by : FnX P w K mg base 8 "is_atom_by" P_is_atom_by .fr m_is_atom_by) : FnX P w K mg base 13 "is_row_in" P_is_row_in .fr m_is_row_in := by
  unfold m_is_row_in
  exact fnx_of (N := N_is_row_in) (M := M_is_row_in) (body := den_is_row_in) T.d_is_row_in sc_is_row_in rfl rfl rfl (by decide) (fun _ _ _ _ _ _ us hl => match us, hl with | [_, _, _], _ => rfl) (fun X W eP ew eK em eb hr tk hp hk c => by
      subst eP; subst ew; subst eK; subst em; subst eb
      exact bd_is_row_in T h_numbers_of h_terms_in h_is_atom_by hr tk hp hk c)
theorem bd_need_row {X : Cx} {W : WX} (T : Tx X.K X.w X.mg) (h_is_row_in : FnX X.prog X.w X.K X.mg X.base 13 "is_row_in" P_is_row_in .fr m_is_row_in) (hr : Room (13) X.A) (tk : Takes X W) (hp : PassesOwn (model X.prog X.w) X.A X.env X.xe) (hk : X.env.scope.kind = .function) (c : CF X N_need_row (defScope st_need_row) (fun _ => true)) : PSsX X W M_need_row .fr (defBody st_need_row) den_need_row :=
    (pssx_one (psx_if (pxt_not (pxt_b (PX.frow (wcall c h_is_row_in hr (by decide) tk (by decide +kernel) rfl (pxa_cons (wv c (i := 0) rfl rfl (by decide +kernel)) (pxa_cons (wv c (i := 1) rfl rfl (by decide +kernel)) (pxa_cons px_bl pxa_nil))) (gl_cons (gl_cons (gl_cons gl_nil)))))))
    (pssx_one psx_never)
    pssx_nil))
theorem ok_need_row (T : Tx K w mg) (h_is_row_in : FnX P w K mg base 13 "is_row_in" P_is_row_in .fr m_is_row_in) : FnX P w K mg base 14 "need_row" P_need_row .fr m_need_row := by
  unfold m_need_row
  exact fnx_of (N := N_need_row) (M := M_need_row) (body := den_need_row) T.d_need_row sc_need_row rfl rfl rfl (by decide) (fun _ _ _ _ _ _ us hl => match us, hl with | [_, _], _ => rfl) (fun X W eP ew eK em eb hr tk hp hk c => by
      subst eP; subst ew; subst eK; subst em; subst eb
      exact bd_need_row T h_is_row_in hr tk hp hk c)
theorem bd_row_by {X : Cx} {W : WX} (T : Tx X.K X.w X.mg) (h_numbers_in : FnX X.prog X.w X.K X.mg X.base 11 "numbers_in" P_numbers_in .fr m_numbers_in) (hr : Room (11) X.A) (tk : Takes X W) (hp : PassesOwn (model X.prog X.w) X.A X.env X.xe) (hk : X.env.scope.kind = .function) (c : CF X N_row_by (defScope st_row_by) (fun _ => true)) : PSsX X W M_row_by .fr (defBody st_row_by) den_row_by :=
    (pssx_cons (wset c (i := 2) rfl rfl (by decide +kernel) (PX.sh (wcall c h_numbers_in hr (by decide) tk (by decide +kernel) rfl (pxa_cons (wv c (i := 0) rfl rfl (by decide +kernel)) pxa_nil) (gl_cons gl_nil))))
    (pssx_cons (wset c (i := 3) rfl rfl (by decide +kernel) (PX.sh (px_dcF c (pix_seq (bb := true) (wv c (i := 1) rfl rfl (by decide +kernel))) (own := [("atom", 4)]) (by decide +kernel) (by decide) (by decide) (fun b3 => have c3 := CF.blk c _ b3; (wtg c3 (i := 4) rfl rfl (by decide +kernel))) (fun _ => pxts_nil) (fun b4 => have c4 := CF.blk c _ b4; (px_nget c4.u100 (wv c4 (i := 2) rfl rfl (by decide +kernel)) (PX.ow (wv c4 (i := 4) rfl rfl (by decide +kernel))) (fun _ _ => rfl))) (fun b5 => have c5 := CF.blk c _ b5; (wv c5 (i := 4) rfl rfl (by decide +kernel))))) (sw_cell c (by decide +kernel)))
    (pssx_one (psx_ret (px_callT cd_tuple (c.gl (by decide +kernel)) T.n_tuple bt_tuple (PX.frow (px_lc c (pix_seq (bb := true) (PX.sh (px_callB (cd_sorted c.calm c.un) (c.gl (by decide +kernel)) T.n_sorted bt_sorted (PX.ow (wv c (i := 3) rfl rfl (by decide +kernel)))))) (own := [("number", 5)]) (by decide +kernel) (by decide) (by decide) (fun b1 => have c1 := CF.blk c _ b1; (wtg c1 (i := 5) rfl rfl (by decide +kernel))) (fun _ => pxts_nil) (fun b2 => have c2 := CF.blk c _ b2; (px_dget c2.u1 (wv c2 (i := 3) rfl rfl (by decide +kernel)) (PX.ow (wv c2 (i := 5) rfl rfl (by decide +kernel))) (fun _ _ => rfl))))))))))
theorem ok_row_by (T : Tx K w mg) (h_numbers_in : FnX P w K mg base 11 "numbers_in" P_numbers_in .fr m_numbers_in) : FnX P w K mg base 12 "row_by" P_row_by .fr m_row_by := by
  unfold m_row_by
  exact fnx_of (N := N_row_by) (M := M_row_by) (body := den_row_by) T.d_row_by sc_row_by rfl rfl rfl (by decide) (fun _ _ _ _ _ _ us hl => match us, hl with | [_, _], _ => rfl) (fun X W eP ew eK em eb hr tk hp hk c => by
      subst eP; subst ew; subst eK; subst em; subst eb
      exact bd_row_by T h_numbers_in hr tk hp hk c)
theorem bd_all_renamings {X : Cx} {W : WX} (T : Tx X.K X.w X.mg)  (hr : Room (0) X.A) (tk : Takes X W) (hp : PassesOwn (model X.prog X.w) X.A X.env X.xe) (hk : X.env.scope.kind = .function) (c : CF X N_all_renamings (defScope st_all_renamings) (fun _ => true)) : PSsX X W M_all_renamings .fr (defBody st_all_renamings) den_all_renamings :=
    (pssx_cons (wset c (i := 1) rfl rfl (by decide +kernel) (PX.sh (px_lst (pxa_cons (px_tup pxa_nil) pxa_nil))))
    (pssx_cons (psx_for hp c.calm (pix_rng1 (bb := true) (c.gl (by decide +kernel)) T.n_range (wv c (i := 0) rfl rfl (by decide +kernel))) (wtg c (i := 2) rfl rfl (by decide +kernel)) (pssx_one (wsetLC2 c (i := 1) rfl rfl (by decide +kernel) hk rfl (by decide +kernel) (pix_seq (bb := true) (wv c (i := 1) rfl rfl (by decide +kernel))) (own := [("row", 3), ("one", 4)]) (by decide +kernel) (by decide) (by decide) (by decide) (fun b1 => have c1 := CF.blk c _ b1; (wtg c1 (i := 3) rfl rfl (by decide +kernel))) (fun _ => pxts_nil) (fun b3 => have c3 := CF.blk c _ b3; (pix_rng1 (bb := true) (c3.gl (by decide +kernel)) T.n_range (wv c3 (i := 0) rfl rfl (by decide +kernel)))) (fun b4 => have c4 := CF.blk c _ b4; (wtg c4 (i := 4) rfl rfl (by decide +kernel))) (fun b5 => have c5 := CF.blk c _ b5; (pxts_one (pxt_cmp (od_notIn c5.un) (wv c5 (i := 4) rfl rfl (by decide +kernel)) (PX.ow (wv c5 (i := 3) rfl rfl (by decide +kernel))) (by with_unfolding_all rfl)))) (fun b2 => have c2 := CF.blk c _ b2; (PX.sh (px_op od_add (wv c2 (i := 3) rfl rfl (by decide +kernel)) (px_tup (pxa_cons (wv c2 (i := 4) rfl rfl (by decide +kernel)) pxa_nil))))))))
    (pssx_one (psx_ret (px_callT cd_tuple (c.gl (by decide +kernel)) T.n_tuple bt_tuple (PX.ow (wv c (i := 1) rfl rfl (by decide +kernel))))))))
theorem ok_all_renamings (T : Tx K w mg)  : FnX P w K mg base 1 "all_renamings" P_all_renamings .fr m_all_renamings := by
  unfold m_all_renamings
  exact fnx_of (N := N_all_renamings) (M := M_all_renamings) (body := den_all_renamings) T.d_all_renamings sc_all_renamings rfl rfl rfl (by decide) (fun _ _ _ _ _ _ us hl => match us, hl with | [_], _ => rfl) (fun X W eP ew eK em eb hr tk hp hk c => by
      subst eP; subst ew; subst eK; subst em; subst eb
      exact bd_all_renamings T  hr tk hp hk c)
theorem bd_atom_by {X : Cx} {W : WX} (T : Tx X.K X.w X.mg)  (hr : Room (0) X.A) (tk : Takes X W) (hp : PassesOwn (model X.prog X.w) X.A X.env X.xe) (hk : X.env.scope.kind = .function) (c : CF X N_atom_by (defScope st_atom_by) (fun _ => true)) : PSsX X W M_atom_by .fr (defBody st_atom_by) den_atom_by :=
    (pssx_cons (psx_asg (wv c (i := 0) rfl rfl (by decide +kernel)) (pgx_tup c.calm (pgsx_cons (wtg c (i := 2) rfl rfl (by decide +kernel)) (pgsx_cons (wtg c (i := 3) rfl rfl (by decide +kernel)) pgsx_nil)) (tl_cons (tl_cons tl_nil))))
    (pssx_one (psx_ret (px_tup (pxa_cons (wv c (i := 2) rfl rfl (by decide +kernel)) (pxa_cons (px_callT cd_tuple (c.gl (by decide +kernel)) T.n_tuple bt_tuple (PX.frow (px_lc c (pix_seq (bb := true) (wv c (i := 3) rfl rfl (by decide +kernel))) (own := [("one", 4)]) (by decide +kernel) (by decide) (by decide) (fun b1 => have c1 := CF.blk c _ b1; (wtg c1 (i := 4) rfl rfl (by decide +kernel))) (fun _ => pxts_nil) (fun b2 => have c2 := CF.blk c _ b2; (px_ix ixd (wv c2 (i := 1) rfl rfl (by decide +kernel)) (PX.ow (wv c2 (i := 4) rfl rfl (by decide +kernel))) (fun _ _ => rfl)))))) pxa_nil))))))
theorem ok_atom_by (T : Tx K w mg)  : FnX P w K mg base 1 "atom_by" P_atom_by .fr m_atom_by := by
  unfold m_atom_by
  exact fnx_of (N := N_atom_by) (M := M_atom_by) (body := den_atom_by) T.d_atom_by sc_atom_by rfl rfl rfl (by decide) (fun _ _ _ _ _ _ us hl => match us, hl with | [_, _], _ => rfl) (fun X W eP ew eK em eb hr tk hp hk c => by
      subst eP; subst ew; subst eK; subst em; subst eb
      exact bd_atom_by T  hr tk hp hk c)
theorem bd_renamed_by {X : Cx} {W : WX} (T : Tx X.K X.w X.mg) (h_row_by : FnX X.prog X.w X.K X.mg X.base 12 "row_by" P_row_by .fr m_row_by) (h_atom_by : FnX X.prog X.w X.K X.mg X.base 1 "atom_by" P_atom_by .fr m_atom_by) (hr : Room (12) X.A) (tk : Takes X W) (hp : PassesOwn (model X.prog X.w) X.A X.env X.xe) (hk : X.env.scope.kind = .function) (c : CF X N_renamed_by (defScope st_renamed_by) (fun _ => true)) : PSsX X W M_renamed_by .fr (defBody st_renamed_by) den_renamed_by :=
    (pssx_one (psx_ret (wcall c h_row_by hr (by decide) tk (by decide +kernel) rfl (pxa_cons (wv c (i := 0) rfl rfl (by decide +kernel)) (pxa_cons (PX.sh (px_lc c (pix_seq (bb := true) (wv c (i := 1) rfl rfl (by decide +kernel))) (own := [("atom", 3)]) (by decide +kernel) (by decide) (by decide) (fun b1 => have c1 := CF.blk c _ b1; (wtg c1 (i := 3) rfl rfl (by decide +kernel))) (fun _ => pxts_nil) (fun b2 => have c2 := CF.blk c _ b2; (PX.sh (wcall c2 h_atom_by hr (by decide) takes0 (by decide +kernel) rfl (pxa_cons (wv c2 (i := 3) rfl rfl (by decide +kernel)) (pxa_cons (wv c2 (i := 2) rfl rfl (by decide +kernel)) pxa_nil)) (gl_cons (gl_cons gl_nil))))))) pxa_nil)) (gl_cons (gl_cons gl_nil)))))
theorem ok_renamed_by (T : Tx K w mg) (h_row_by : FnX P w K mg base 12 "row_by" P_row_by .fr m_row_by) (h_atom_by : FnX P w K mg base 1 "atom_by" P_atom_by .fr m_atom_by) : FnX P w K mg base 13 "renamed_by" P_renamed_by .fr m_renamed_by := by
  unfold m_renamed_by
  exact fnx_of (N := N_renamed_by) (M := M_renamed_by) (body := den_renamed_by) T.d_renamed_by sc_renamed_by rfl rfl rfl (by decide) (fun _ _ _ _ _ _ us hl => match us, hl with | [_, _, _], _ => rfl) (fun X W eP ew eK em eb hr tk hp hk c => by
      subst eP; subst ew; subst eK; subst em; subst eb
      exact bd_renamed_by T h_row_by h_atom_by hr tk hp hk c)
theorem bd_kinds_by {X : Cx} {W : WX} (T : Tx X.K X.w X.mg) (h_numbers_in : FnX X.prog X.w X.K X.mg X.base 11 "numbers_in" P_numbers_in .fr m_numbers_in) (h_all_renamings : FnX X.prog X.w X.K X.mg X.base 1 "all_renamings" P_all_renamings .fr m_all_renamings) (h_renamed_by : FnX X.prog X.w X.K X.mg X.base 13 "renamed_by" P_renamed_by .fr m_renamed_by) (hr : Room (13) X.A) (tk : Takes X W) (hp : PassesOwn (model X.prog X.w) X.A X.env X.xe) (hk : X.env.scope.kind = .function) (c : CF X N_kinds_by (defScope st_kinds_by) (fun _ => true)) : PSsX X W M_kinds_by .fr (defBody st_kinds_by) den_kinds_by :=
    (pssx_cons (wset c (i := 2) rfl rfl (by decide +kernel) (PX.sh (wcall c h_numbers_in hr (by decide) tk (by decide +kernel) rfl (pxa_cons (wv c (i := 0) rfl rfl (by decide +kernel)) pxa_nil) (gl_cons gl_nil))))
    (pssx_cons (wsetO c (i := 3) rfl rfl (by decide +kernel) px_dnewN)
    (pssx_cons (psx_for hp c.calm (pix_seq (bb := true) (PX.sh (wcall c h_all_renamings hr (by decide) tk (by decide +kernel) rfl (pxa_cons (px_ix ixd (wv c (i := 0) rfl rfl (by decide +kernel)) px_int (fun _ _ => rfl)) pxa_nil) (gl_cons gl_nil)))) (wtg c (i := 4) rfl rfl (by decide +kernel)) (pssx_cons (wset c (i := 5) rfl rfl (by decide +kernel) (PX.sh (wcall c h_renamed_by hr (by decide) tk (by decide +kernel) rfl (pxa_cons (wv c (i := 0) rfl rfl (by decide +kernel)) (pxa_cons (wv c (i := 1) rfl rfl (by decide +kernel)) (pxa_cons (wv c (i := 4) rfl rfl (by decide +kernel)) pxa_nil))) (gl_cons (gl_cons (gl_cons gl_nil))))))
    (pssx_one (wstN c (j := 3) rfl rfl rfl (by decide +kernel) (px_callT cd_tuple (c.gl (by decide +kernel)) T.n_tuple bt_tuple (PX.frow (px_lc c (pix_seq (bb := true) (wv c (i := 5) rfl rfl (by decide +kernel))) (own := [("atom", 7)]) (by decide +kernel) (by decide) (by decide) (fun b3 => have c3 := CF.blk c _ b3; (wtg c3 (i := 7) rfl rfl (by decide +kernel))) (fun _ => pxts_nil) (fun b4 => have c4 := CF.blk c _ b4; (px_nget c4.u100 (wv c4 (i := 2) rfl rfl (by decide +kernel)) (PX.ow (wv c4 (i := 7) rfl rfl (by decide +kernel))) (fun _ _ => rfl)))))) (wv c (i := 5) rfl rfl (by decide +kernel))))))
    (pssx_one (psx_ret (px_callT cd_tuple (c.gl (by decide +kernel)) T.n_tuple bt_tuple (PX.frow (px_lc c (pix_seq (bb := true) (PX.sh (px_callB (cd_sorted c.calm c.un) (c.gl (by decide +kernel)) T.n_sorted bt_sorted (wo c (i := 3) rfl rfl rfl (by decide +kernel))))) (own := [("places", 6)]) (by decide +kernel) (by decide) (by decide) (fun b1 => have c1 := CF.blk c _ b1; (wtg c1 (i := 6) rfl rfl (by decide +kernel))) (fun _ => pxts_nil) (fun b2 => have c2 := CF.blk c _ b2; (wngetO c2 (i := 3) rfl rfl rfl (by decide +kernel) (PX.ow (wv c2 (i := 6) rfl rfl (by decide +kernel))) (fun _ _ => rfl)))))))))))
theorem ok_kinds_by (T : Tx K w mg) (h_numbers_in : FnX P w K mg base 11 "numbers_in" P_numbers_in .fr m_numbers_in) (h_all_renamings : FnX P w K mg base 1 "all_renamings" P_all_renamings .fr m_all_renamings) (h_renamed_by : FnX P w K mg base 13 "renamed_by" P_renamed_by .fr m_renamed_by) : FnX P w K mg base 14 "kinds_by" P_kinds_by .fr m_kinds_by := by
  unfold m_kinds_by
  exact fnx_of (N := N_kinds_by) (M := M_kinds_by) (body := den_kinds_by) T.d_kinds_by sc_kinds_by rfl rfl rfl (by decide) (fun _ _ _ _ _ _ us hl => match us, hl with | [_, _], _ => rfl) (fun X W eP ew eK em eb hr tk hp hk c => by
      subst eP; subst ew; subst eK; subst em; subst eb
      exact bd_kinds_by T h_numbers_in h_all_renamings h_renamed_by hr tk hp hk c)
theorem bd_kinds_of {X : Cx} {W : WX} (T : Tx X.K X.w X.mg) (h_need_field : FnX X.prog X.w X.K X.mg X.base 10 "need_field" P_need_field .fr m_need_field) (h_need_row : FnX X.prog X.w X.K X.mg X.base 14 "need_row" P_need_row .fr m_need_row) (h_kinds_by : FnX X.prog X.w X.K X.mg X.base 14 "kinds_by" P_kinds_by .fr m_kinds_by) (hr : Room (14) X.A) (tk : Takes X W) (hp : PassesOwn (model X.prog X.w) X.A X.env X.xe) (hk : X.env.scope.kind = .function) (c : CF X N_kinds_of (defScope st_kinds_of) (fun _ => true)) : PSsX X W M_kinds_of .fr (defBody st_kinds_of) den_kinds_of :=
    (pssx_cons (psx_expr (PX.frow (wcall c h_need_field hr (by decide) tk (by decide +kernel) rfl (pxa_cons (wv c (i := 0) rfl rfl (by decide +kernel)) pxa_nil) (gl_cons gl_nil))))
    (pssx_cons (psx_expr (PX.frow (wcall c h_need_row hr (by decide) tk (by decide +kernel) rfl (pxa_cons (wv c (i := 0) rfl rfl (by decide +kernel)) (pxa_cons (wv c (i := 1) rfl rfl (by decide +kernel)) pxa_nil)) (gl_cons (gl_cons gl_nil)))))
    (pssx_one (psx_ret (wcall c h_kinds_by hr (by decide) tk (by decide +kernel) rfl (pxa_cons (wv c (i := 0) rfl rfl (by decide +kernel)) (pxa_cons (wv c (i := 1) rfl rfl (by decide +kernel)) pxa_nil)) (gl_cons (gl_cons gl_nil)))))))
theorem ok_kinds_of (T : Tx K w mg) (h_need_field : FnX P w K mg base 10 "need_field" P_need_field .fr m_need_field) (h_need_row : FnX P w K mg base 14 "need_row" P_need_row .fr m_need_row) (h_kinds_by : FnX P w K mg base 14 "kinds_by" P_kinds_by .fr m_kinds_by) : FnX P w K mg base 15 "kinds_of" P_kinds_of .fr m_kinds_of := by
  unfold m_kinds_of
  exact fnx_of (N := N_kinds_of) (M := M_kinds_of) (body := den_kinds_of) T.d_kinds_of sc_kinds_of rfl rfl rfl (by decide) (fun _ _ _ _ _ _ us hl => match us, hl with | [_, _], _ => rfl) (fun X W eP ew eK em eb hr tk hp hk c => by
      subst eP; subst ew; subst eK; subst em; subst eb
      exact bd_kinds_of T h_need_field h_need_row h_kinds_by hr tk hp hk c)
theorem bd_least_by {X : Cx} {W : WX} (T : Tx X.K X.w X.mg) (h_kinds_by : FnX X.prog X.w X.K X.mg X.base 14 "kinds_by" P_kinds_by .fr m_kinds_by) (hr : Room (14) X.A) (tk : Takes X W) (hp : PassesOwn (model X.prog X.w) X.A X.env X.xe) (hk : X.env.scope.kind = .function) (c : CF X N_least_by (defScope st_least_by) (fun _ => true)) : PSsX X W M_least_by .fr (defBody st_least_by) den_least_by :=
    (pssx_cons (psx_star c.calm (PX.sh (wcall c h_kinds_by hr (by decide) tk (by decide +kernel) rfl (pxa_cons (wv c (i := 0) rfl rfl (by decide +kernel)) (pxa_cons (wv c (i := 1) rfl rfl (by decide +kernel)) pxa_nil)) (gl_cons (gl_cons gl_nil)))) (pgsx_cons (wtg c (i := 2) rfl rfl (by decide +kernel)) (pgsx_cons (wtg c (i := 3) rfl rfl (by decide +kernel)) pgsx_nil)))
    (pssx_one (psx_ret (PX.im (PX.ow (wv c (i := 2) rfl rfl (by decide +kernel)))))))
theorem ok_least_by (T : Tx K w mg) (h_kinds_by : FnX P w K mg base 14 "kinds_by" P_kinds_by .fr m_kinds_by) : FnX P w K mg base 15 "least_by" P_least_by .fr m_least_by := by
  unfold m_least_by
  exact fnx_of (N := N_least_by) (M := M_least_by) (body := den_least_by) T.d_least_by sc_least_by rfl rfl rfl (by decide) (fun _ _ _ _ _ _ us hl => match us, hl with | [_, _], _ => rfl) (fun X W eP ew eK em eb hr tk hp hk c => by
      subst eP; subst ew; subst eK; subst em; subst eb
      exact bd_least_by T h_kinds_by hr tk hp hk c)
theorem bd_least_row {X : Cx} {W : WX} (T : Tx X.K X.w X.mg) (h_need_field : FnX X.prog X.w X.K X.mg X.base 10 "need_field" P_need_field .fr m_need_field) (h_need_row : FnX X.prog X.w X.K X.mg X.base 14 "need_row" P_need_row .fr m_need_row) (h_least_by : FnX X.prog X.w X.K X.mg X.base 15 "least_by" P_least_by .fr m_least_by) (hr : Room (15) X.A) (tk : Takes X W) (hp : PassesOwn (model X.prog X.w) X.A X.env X.xe) (hk : X.env.scope.kind = .function) (c : CF X N_least_row (defScope st_least_row) (fun _ => true)) : PSsX X W M_least_row .fr (defBody st_least_row) den_least_row :=
    (pssx_cons (psx_expr (PX.frow (wcall c h_need_field hr (by decide) tk (by decide +kernel) rfl (pxa_cons (wv c (i := 0) rfl rfl (by decide +kernel)) pxa_nil) (gl_cons gl_nil))))
    (pssx_cons (psx_expr (PX.frow (wcall c h_need_row hr (by decide) tk (by decide +kernel) rfl (pxa_cons (wv c (i := 0) rfl rfl (by decide +kernel)) (pxa_cons (wv c (i := 1) rfl rfl (by decide +kernel)) pxa_nil)) (gl_cons (gl_cons gl_nil)))))
    (pssx_one (psx_ret (wcall c h_least_by hr (by decide) tk (by decide +kernel) rfl (pxa_cons (wv c (i := 0) rfl rfl (by decide +kernel)) (pxa_cons (wv c (i := 1) rfl rfl (by decide +kernel)) pxa_nil)) (gl_cons (gl_cons gl_nil)))))))
theorem ok_least_row (T : Tx K w mg) (h_need_field : FnX P w K mg base 10 "need_field" P_need_field .fr m_need_field) (h_need_row : FnX P w K mg base 14 "need_row" P_need_row .fr m_need_row) (h_least_by : FnX P w K mg base 15 "least_by" P_least_by .fr m_least_by) : FnX P w K mg base 16 "least_row" P_least_row .fr m_least_row := by
  unfold m_least_row
  exact fnx_of (N := N_least_row) (M := M_least_row) (body := den_least_row) T.d_least_row sc_least_row rfl rfl rfl (by decide) (fun _ _ _ _ _ _ us hl => match us, hl with | [_, _], _ => rfl) (fun X W eP ew eK em eb hr tk hp hk c => by
      subst eP; subst ew; subst eK; subst em; subst eb
      exact bd_least_row T h_need_field h_need_row h_least_by hr tk hp hk c)
theorem bd__law_pool {X : Cx} {W : WX} (T : Tx X.K X.w X.mg)  (hr : Room (0) X.A) (tk : Takes X W) (hp : PassesOwn (model X.prog X.w) X.A X.env X.xe) (hk : X.env.scope.kind = .function) (c : CF X N__law_pool (defScope st__law_pool) (fun _ => true)) : PSsX X W M__law_pool .fr (defBody st__law_pool) den__law_pool :=
    (pssx_cons (wset c (i := 2) rfl rfl (by decide +kernel) px_int)
    (pssx_cons (psx_if (pxt_cmp od_lt (wv c (i := 1) rfl rfl (by decide +kernel)) (px_callB cd_len (c.gl (by decide +kernel)) T.n_len bt_len (PX.ow (wv c (i := 0) rfl rfl (by decide +kernel)))) (nomark _))
    (pssx_one (wset c (i := 2) rfl rfl (by decide +kernel) (px_ix ixd (wv c (i := 0) rfl rfl (by decide +kernel)) (PX.ow (wv c (i := 1) rfl rfl (by decide +kernel))) (fun _ _ => rfl))))
    pssx_nil)
    (pssx_one (psx_ret (px_lst (pxa_cons (px_call2 (call_max2 c.calm) (c.gl (by decide +kernel)) T.n_max bt_max px_int (px_op od_sub (wv c (i := 2) rfl rfl (by decide +kernel)) (px_op od_pow px_int px_int))) (pxa_cons (px_op od_mod (wv c (i := 2) rfl rfl (by decide +kernel)) px_int) (pxa_cons (PX.sh (px_op od_add (px_op od_mul px_int (PX.ow (wv c (i := 1) rfl rfl (by decide +kernel)))) px_int)) pxa_nil))))))))
theorem ok__law_pool (T : Tx K w mg)  : FnX P w K mg base 1 "_law_pool" P__law_pool .fr m__law_pool := by
  unfold m__law_pool
  exact fnx_of (N := N__law_pool) (M := M__law_pool) (body := den__law_pool) T.d__law_pool sc__law_pool rfl rfl rfl (by decide) (fun _ _ _ _ _ _ us hl => match us, hl with | [_, _], _ => rfl) (fun X W eP ew eK em eb hr tk hp hk c => by
      subst eP; subst ew; subst eK; subst em; subst eb
      exact bd__law_pool T  hr tk hp hk c)
theorem bd__law_take {X : Cx} {W : WX} (T : Tx X.K X.w X.mg)  (hr : Room (0) X.A) (tk : Takes X W) (hp : PassesOwn (model X.prog X.w) X.A X.env X.xe) (hk : X.env.scope.kind = .function) (c : CF X N__law_take (defScope st__law_take) (fun _ => true)) : PSsX X W M__law_take .fr (defBody st__law_take) den__law_take :=
    (pssx_cons (psx_if (pxt_cmp od_gt (wixO c (i := 0) rfl rfl rfl (by decide +kernel) px_int (fun _ _ => rfl)) px_int (nomark _))
    (pssx_cons (wset c (i := 4) rfl rfl (by decide +kernel) (px_op od_mod (wixO c (i := 0) rfl rfl rfl (by decide +kernel) px_int (fun _ _ => rfl)) (PX.ow (wv c (i := 1) rfl rfl (by decide +kernel)))))
    (pssx_cons (wstL c (j := 0) rfl rfl rfl (by decide +kernel) px_int (px_op od_fdiv (wixO c (i := 0) rfl rfl rfl (by decide +kernel) px_int (fun _ _ => rfl)) (PX.ow (wv c (i := 1) rfl rfl (by decide +kernel)))))
    (pssx_one (psx_ret (PX.im (PX.ow (wv c (i := 4) rfl rfl (by decide +kernel))))))))
    pssx_nil)
    (pssx_cons (wstL c (j := 0) rfl rfl rfl (by decide +kernel) px_int (PX.sh (px_op od_add (wixO c (i := 0) rfl rfl rfl (by decide +kernel) px_int (fun _ _ => rfl)) px_int)))
    (pssx_cons (wset c (i := 2) rfl rfl (by decide +kernel) (px_op od_mod (PX.sh (px_op od_add (PX.sh (px_op od_add (px_op od_mul (wixO c (i := 0) rfl rfl rfl (by decide +kernel) px_int (fun _ _ => rfl)) px_int) (px_op od_mul px_int (PX.ow (wixO c (i := 0) rfl rfl rfl (by decide +kernel) px_int (fun _ _ => rfl)))))) px_int)) px_int))
    (pssx_cons (wset c (i := 2) rfl rfl (by decide +kernel) (px_op od_mod (px_op od_pow (wv c (i := 2) rfl rfl (by decide +kernel)) px_int) px_int))
    (pssx_cons (wset c (i := 3) rfl rfl (by decide +kernel) (px_op od_mod (px_op od_pow (PX.sh (px_op od_add (PX.sh (px_op od_add (wv c (i := 2) rfl rfl (by decide +kernel)) (px_op od_mul (px_op od_mul px_int (PX.ow (wixO c (i := 0) rfl rfl rfl (by decide +kernel) px_int (fun _ _ => rfl)))) (PX.ow (wixO c (i := 0) rfl rfl rfl (by decide +kernel) px_int (fun _ _ => rfl)))))) (px_op od_mod (wixO c (i := 0) rfl rfl rfl (by decide +kernel) px_int (fun _ _ => rfl)) px_int))) px_int) px_int))
    (pssx_one (psx_ret (px_op od_mod (px_op od_fdiv (px_op od_mod (px_op od_mul (wv c (i := 3) rfl rfl (by decide +kernel)) px_int) px_int) px_int) (PX.ow (wv c (i := 1) rfl rfl (by decide +kernel)))))))))))
theorem ok__law_take (T : Tx K w mg)  : FnX P w K mg base 1 "_law_take" P__law_take .fr m__law_take := by
  unfold m__law_take
  exact fnx_of (N := N__law_take) (M := M__law_take) (body := den__law_take) T.d__law_take sc__law_take rfl rfl rfl (by decide) (fun _ _ _ _ _ _ us hl => match us, hl with | [_, _], _ => rfl) (fun X W eP ew eK em eb hr tk hp hk c => by
      subst eP; subst ew; subst eK; subst em; subst eb
      exact bd__law_take T  hr tk hp hk c)
theorem bd__law_same {X : Cx} {W : WX} {j : Nat} {self : FDen} (T : Tx X.K X.w X.mg)  (ih : FnX X.prog X.w X.K X.mg X.base (0 + j) "_law_same" P__law_same .fr self) (hr : Room (0 + j) X.A) (tk : Takes X W) (hp : PassesOwn (model X.prog X.w) X.A X.env X.xe) (hk : X.env.scope.kind = .function) (c : CF X N__law_same (defScope st__law_same) (fun _ => true)) : PSsX X W M__law_same .fr (defBody st__law_same) (den__law_same self) :=
    (pssx_cons (psx_if (pxt_b (px_is .tuple (c.gl (by decide +kernel)) T.n_isinstance rfl (c.gl (by decide +kernel)) T.n_tuple (wv c (i := 1) rfl rfl (by decide +kernel))))
    (pssx_cons (psx_if (PXW.t (pxw_or (pxt_not (pxt_b (px_is .tuple (c.gl (by decide +kernel)) T.n_isinstance rfl (c.gl (by decide +kernel)) T.n_tuple (wv c (i := 0) rfl rfl (by decide +kernel))))) (pxw_or1 (pxt_cmp (od_ne c.un) (px_callB cd_len (c.gl (by decide +kernel)) T.n_len bt_len (PX.ow (wv c (i := 0) rfl rfl (by decide +kernel)))) (px_callB cd_len (c.gl (by decide +kernel)) T.n_len bt_len (PX.ow (wv c (i := 1) rfl rfl (by decide +kernel)))) (nomark _)))))
    (pssx_one (psx_ret px_bl))
    pssx_nil)
    (pssx_one (psx_ret (px_callB (cd_all c.calm) (c.gl (by decide +kernel)) T.n_all bt_all (PX.frow (px_lc c (pix_zip (c.gl (by decide +kernel)) T.n_zip (wv c (i := 0) rfl rfl (by decide +kernel)) (wv c (i := 1) rfl rfl (by decide +kernel))) (own := [("one", 2), ("other", 3)]) (by decide +kernel) (by decide) (by decide) (fun b1 => have c1 := CF.blk c _ b1; (pgx_tup c1.calm (pgsx_cons (wtg c1 (i := 2) rfl rfl (by decide +kernel)) (pgsx_cons (wtg c1 (i := 3) rfl rfl (by decide +kernel)) pgsx_nil)) (tl_cons (tl_cons tl_nil)))) (fun _ => pxts_nil) (fun b2 => have c2 := CF.blk c _ b2; (PX.sh (wcall c2 ih hr (Nat.le_refl _) takes0 (by decide +kernel) rfl (pxa_cons (wv c2 (i := 2) rfl rfl (by decide +kernel)) (pxa_cons (wv c2 (i := 3) rfl rfl (by decide +kernel)) pxa_nil)) (gl_cons (gl_cons gl_nil)))))))))))
    pssx_nil)
    (pssx_cons (psx_if (pxt_cmp od_isN (wv c (i := 1) rfl rfl (by decide +kernel)) px_non (nomark _))
    (pssx_one (psx_ret (px_cmp od_isN (wv c (i := 0) rfl rfl (by decide +kernel)) px_non (nomark _))))
    pssx_nil)
    (pssx_cons (psx_if (pxt_b (px_is2 .str .bool (c.gl (by decide +kernel)) T.n_isinstance rfl (c.gl (by decide +kernel)) T.n_str rfl (c.gl (by decide +kernel)) T.n_bool (wv c (i := 1) rfl rfl (by decide +kernel))))
    (pssx_one (psx_ret (px_and (px_is2 .str .bool (c.gl (by decide +kernel)) T.n_isinstance rfl (c.gl (by decide +kernel)) T.n_str rfl (c.gl (by decide +kernel)) T.n_bool (wv c (i := 0) rfl rfl (by decide +kernel))) (px_and (px_cmp (od_eq c.un) (px_is .bool (c.gl (by decide +kernel)) T.n_isinstance rfl (c.gl (by decide +kernel)) T.n_bool (wv c (i := 0) rfl rfl (by decide +kernel))) (px_is .bool (c.gl (by decide +kernel)) T.n_isinstance rfl (c.gl (by decide +kernel)) T.n_bool (wv c (i := 1) rfl rfl (by decide +kernel))) (nomark _)) (px_one (px_cmp (od_eq c.un) (wv c (i := 0) rfl rfl (by decide +kernel)) (PX.ow (wv c (i := 1) rfl rfl (by decide +kernel))) (nomark _)))))))
    pssx_nil)
    (pssx_one (psx_ret (px_and (px_is .int (c.gl (by decide +kernel)) T.n_isinstance rfl (c.gl (by decide +kernel)) T.n_int (wv c (i := 0) rfl rfl (by decide +kernel))) (px_and (px_not (px_is .bool (c.gl (by decide +kernel)) T.n_isinstance rfl (c.gl (by decide +kernel)) T.n_bool (wv c (i := 0) rfl rfl (by decide +kernel)))) (px_one (px_cmp (od_eq c.un) (wv c (i := 0) rfl rfl (by decide +kernel)) (PX.ow (wv c (i := 1) rfl rfl (by decide +kernel))) (nomark _))))))))))
theorem ok__law_same (T : Tx K w mg)  : ∀ j : Nat, FnX P w K mg base (0 + j) "_law_same" P__law_same .fr (m__law_same j)
  | 0 => by
    rw [m__law_same_z]
    exact fnx_bad T.d__law_same sc__law_same rfl (fun _ _ _ _ _ _ us hl => match us, hl with | [_, _], _ => rfl)
  | j + 1 => by
    have ih := ok__law_same T  j
    rw [m__law_same_s]
    exact fnx_of (N := N__law_same) (M := M__law_same) (body := den__law_same (m__law_same j)) T.d__law_same sc__law_same rfl rfl rfl (by decide) (fun _ _ _ _ _ _ us hl => match us, hl with | [_, _], _ => rfl) (fun X W eP ew eK em eb hr tk hp hk c => by
      subst eP; subst ew; subst eK; subst em; subst eb
      exact bd__law_same T  ih hr tk hp hk c)
theorem bd__law_names {X : Cx} {W : WX} (T : Tx X.K X.w X.mg) (h__law_take : FnX X.prog X.w X.K X.mg X.base 1 "_law_take" P__law_take .fr m__law_take) (hr : Room (1) X.A) (tk : Takes X W) (hp : PassesOwn (model X.prog X.w) X.A X.env X.xe) (hk : X.env.scope.kind = .function) (c : CF X N__law_names (defScope st__law_names) (fun _ => true)) : PSsX X W M__law_names .fr (defBody st__law_names) den__law_names :=
    (pssx_cons (wset c (i := 2) rfl rfl (by decide +kernel) (px_ix ixd (PX.sh (px_lst (pxa_cons px_str (pxa_cons px_str pxa_nil)))) (PX.frow (wcallP c h__law_take hr (by decide) tk (by decide +kernel) rfl (j := 0) rfl rfl rfl (by decide +kernel) (pxa_cons px_int pxa_nil) (gl_cons gl_nil))) (fun _ _ => rfl)))
    (pssx_cons (wsetO c (i := 3) rfl rfl (by decide +kernel) (px_lst (pxa_cons px_str (pxa_cons px_str (pxa_cons px_str (pxa_cons px_str (pxa_cons px_str (pxa_cons px_str pxa_nil))))))))
    (pssx_cons (psx_for hp c.calm (pix_rng1 (bb := true) (c.gl (by decide +kernel)) T.n_range (wv c (i := 1) rfl rfl (by decide +kernel))) (wtg c (i := 4) rfl rfl (by decide +kernel)) (pssx_cons (wset c (i := 5) rfl rfl (by decide +kernel) (px_join px_str (PX.sh (px_lc c (pix_rng1 (bb := true) (c.gl (by decide +kernel)) T.n_range (PX.sh (px_op od_add px_int (PX.frow (wcallP c h__law_take hr (by decide) tk (by decide +kernel) rfl (j := 0) rfl rfl rfl (by decide +kernel) (pxa_cons px_int pxa_nil) (gl_cons gl_nil)))))) (own := [("turn", 8)]) (by decide +kernel) (by decide) (by decide) (fun b6 => have c6 := CF.blk c _ b6; (wtg c6 (i := 8) rfl rfl (by decide +kernel))) (fun _ => pxts_nil) (fun b7 => have c7 := CF.blk c _ b7; (px_ix ixd (wv c7 (i := 2) rfl rfl (by decide +kernel)) (PX.frow (wcallP c7 h__law_take hr (by decide) takes0 (by decide +kernel) rfl (j := 0) rfl rfl rfl (by decide +kernel) (pxa_cons (px_callB cd_len (c7.gl (by decide +kernel)) T.n_len bt_len (PX.ow (wv c7 (i := 2) rfl rfl (by decide +kernel)))) pxa_nil) (gl_cons gl_nil))) (fun _ _ => rfl)))))))
    (pssx_cons (psx_if (PXW.t (pxw_and (pxt_cmp od_gt (wv c (i := 4) rfl rfl (by decide +kernel)) px_int (nomark _)) (pxw_and1 (pxt_cmp (od_eq c.un) (PX.sh (wcallP c h__law_take hr (by decide) tk (by decide +kernel) rfl (j := 0) rfl rfl rfl (by decide +kernel) (pxa_cons px_int pxa_nil) (gl_cons gl_nil))) px_int (nomark _)))))
    (pssx_one (wset c (i := 5) rfl rfl (by decide +kernel) (wixO c (i := 3) rfl rfl rfl (by decide +kernel) (px_neg px_int) (fun _ _ => rfl))))
    pssx_nil)
    (pssx_cons (wset c (i := 6) rfl rfl (by decide +kernel) (PX.sh (wcallP c h__law_take hr (by decide) tk (by decide +kernel) rfl (j := 0) rfl rfl rfl (by decide +kernel) (pxa_cons (px_callB cd_len (c.gl (by decide +kernel)) T.n_len bt_len (PX.ow (wv c (i := 5) rfl rfl (by decide +kernel)))) pxa_nil) (gl_cons gl_nil))))
    (pssx_cons (wset c (i := 7) rfl rfl (by decide +kernel) (PX.sh (px_op od_add (PX.sh (px_lst (pxa_cons (wv c (i := 5) rfl rfl (by decide +kernel)) pxa_nil))) (PX.frow (px_lc c (pix_str (bb := true) px_str) (own := [("letter", 9)]) (by decide +kernel) (by decide) (by decide) (fun b4 => have c4 := CF.blk c _ b4; (wtg c4 (i := 9) rfl rfl (by decide +kernel))) (fun _ => pxts_nil) (fun b5 => have c5 := CF.blk c _ b5; (PX.sh (px_op od_add (PX.sh (px_op od_add (PX.sh (px_sl (wv c5 (i := 5) rfl rfl (by decide +kernel)) pxo_no (pxo_so (PX.ow (wv c5 (i := 6) rfl rfl (by decide +kernel)))))) (PX.ow (wv c5 (i := 9) rfl rfl (by decide +kernel))))) (PX.frow (px_sl (wv c5 (i := 5) rfl rfl (by decide +kernel)) (pxo_so (PX.frow (px_op od_add (wv c5 (i := 6) rfl rfl (by decide +kernel)) px_int))) pxo_no))))))))))
    (pssx_one (wapp c (i := 3) rfl rfl rfl (by decide +kernel) (px_ix ixd (PX.sh (px_lc c (pix_seq (bb := true) (wv c (i := 7) rfl rfl (by decide +kernel))) (own := [("one", 10)]) (by decide +kernel) (by decide) (by decide) (fun b1 => have c1 := CF.blk c _ b1; (wtg c1 (i := 10) rfl rfl (by decide +kernel))) (fun b2 => have c2 := CF.blk c _ b2; (pxts_one (pxt_cmp (od_notIn c2.un) (wv c2 (i := 10) rfl rfl (by decide +kernel)) (wo c2 (i := 3) rfl rfl rfl (by decide +kernel)) (by with_unfolding_all rfl)))) (fun b3 => have c3 := CF.blk c _ b3; (wv c3 (i := 10) rfl rfl (by decide +kernel))))) px_int (fun _ _ => rfl)))))))))
    (pssx_one (psx_ret (wslO c (i := 3) rfl rfl rfl (by decide +kernel) (pxo_so px_int) pxo_no))))))
theorem ok__law_names (T : Tx K w mg) (h__law_take : FnX P w K mg base 1 "_law_take" P__law_take .fr m__law_take) : FnX P w K mg base 2 "_law_names" P__law_names .fr m__law_names := by
  unfold m__law_names
  exact fnx_of (N := N__law_names) (M := M__law_names) (body := den__law_names) T.d__law_names sc__law_names rfl rfl rfl (by decide) (fun _ _ _ _ _ _ us hl => match us, hl with | [_, _], _ => rfl) (fun X W eP ew eK em eb hr tk hp hk c => by
      subst eP; subst ew; subst eK; subst em; subst eb
      exact bd__law_names T h__law_take hr tk hp hk c)
theorem bd__law_notions {X : Cx} {W : WX} (T : Tx X.K X.w X.mg) (h__law_names : FnX X.prog X.w X.K X.mg X.base 2 "_law_names" P__law_names .fr m__law_names) (h__law_take : FnX X.prog X.w X.K X.mg X.base 1 "_law_take" P__law_take .fr m__law_take) (hr : Room (2) X.A) (tk : Takes X W) (hp : PassesOwn (model X.prog X.w) X.A X.env X.xe) (hk : X.env.scope.kind = .function) (c : CF X N__law_notions (defScope st__law_notions) (fun _ => true)) : PSsX X W M__law_notions .fr (defBody st__law_notions) den__law_notions :=
    (pssx_cons (wset c (i := 1) rfl rfl (by decide +kernel) (PX.sh (wcallP c h__law_names hr (by decide) tk (by decide +kernel) rfl (j := 0) rfl rfl rfl (by decide +kernel) (pxa_cons (PX.sh (px_op od_add px_int (PX.frow (wcallP c h__law_take hr (by decide) tk (by decide +kernel) rfl (j := 0) rfl rfl rfl (by decide +kernel) (pxa_cons px_int pxa_nil) (gl_cons gl_nil))))) pxa_nil) (gl_cons gl_nil))))
    (pssx_one (psx_ret (px_callT cd_tuple (c.gl (by decide +kernel)) T.n_tuple bt_tuple (PX.frow (px_lc c (pix_seq (bb := true) (wv c (i := 1) rfl rfl (by decide +kernel))) (own := [("name", 2)]) (by decide +kernel) (by decide) (by decide) (fun b1 => have c1 := CF.blk c _ b1; (wtg c1 (i := 2) rfl rfl (by decide +kernel))) (fun _ => pxts_nil) (fun b2 => have c2 := CF.blk c _ b2; (px_tup (pxa_cons (wv c2 (i := 2) rfl rfl (by decide +kernel)) (pxa_cons (PX.sh (px_op od_add px_int (px_callT cd_int (c2.gl (by decide +kernel)) T.n_int bt_int (px_cmp od_gt (PX.sh (wcallP c2 h__law_take hr (by decide) takes0 (by decide +kernel) rfl (j := 0) rfl rfl rfl (by decide +kernel) (pxa_cons px_int pxa_nil) (gl_cons gl_nil))) px_int (nomark _))))) pxa_nil))))))))))
theorem ok__law_notions (T : Tx K w mg) (h__law_names : FnX P w K mg base 2 "_law_names" P__law_names .fr m__law_names) (h__law_take : FnX P w K mg base 1 "_law_take" P__law_take .fr m__law_take) : FnX P w K mg base 3 "_law_notions" P__law_notions .fr m__law_notions := by
  unfold m__law_notions
  exact fnx_of (N := N__law_notions) (M := M__law_notions) (body := den__law_notions) T.d__law_notions sc__law_notions rfl rfl rfl (by decide) (fun _ _ _ _ _ _ us hl => match us, hl with | [_], _ => rfl) (fun X W eP ew eK em eb hr tk hp hk c => by
      subst eP; subst ew; subst eK; subst em; subst eb
      exact bd__law_notions T h__law_names h__law_take hr tk hp hk c)
theorem bd__law_term {X : Cx} {W : WX} (T : Tx X.K X.w X.mg) (h__law_take : FnX X.prog X.w X.K X.mg X.base 1 "_law_take" P__law_take .fr m__law_take) (hr : Room (1) X.A) (tk : Takes X W) (hp : PassesOwn (model X.prog X.w) X.A X.env X.xe) (hk : X.env.scope.kind = .function) (c : CF X N__law_term (defScope st__law_term) (fun _ => true)) : PSsX X W M__law_term .fr (defBody st__law_term) den__law_term :=
    (pssx_cons (psx_asg (px_ix ixd (wv c (i := 1) rfl rfl (by decide +kernel)) (PX.frow (wcallP c h__law_take hr (by decide) tk (by decide +kernel) rfl (j := 0) rfl rfl rfl (by decide +kernel) (pxa_cons (px_callB cd_len (c.gl (by decide +kernel)) T.n_len bt_len (PX.ow (wv c (i := 1) rfl rfl (by decide +kernel)))) pxa_nil) (gl_cons gl_nil))) (fun _ _ => rfl)) (pgx_tup c.calm (pgsx_cons (wtg c (i := 4) rfl rfl (by decide +kernel)) (pgsx_cons (wtg c (i := 5) rfl rfl (by decide +kernel)) pgsx_nil)) (tl_cons (tl_cons tl_nil))))
    (pssx_cons (psx_for hp c.calm (pix_rng1 (bb := true) (c.gl (by decide +kernel)) T.n_range (PX.sh (wcallP c h__law_take hr (by decide) tk (by decide +kernel) rfl (j := 0) rfl rfl rfl (by decide +kernel) (pxa_cons (PX.sh (px_op od_add (wv c (i := 2) rfl rfl (by decide +kernel)) px_int)) pxa_nil) (gl_cons gl_nil)))) (wtg c (i := 3) rfl rfl (by decide +kernel)) (pssx_cons (wset c (i := 6) rfl rfl (by decide +kernel) (PX.sh (px_op od_add (PX.sh (px_lc c (pix_seq (bb := true) (wv c (i := 1) rfl rfl (by decide +kernel))) (own := [("name", 11), ("many", 12)]) (by decide +kernel) (by decide) (by decide) (fun b3 => have c3 := CF.blk c _ b3; (pgx_tup c3.calm (pgsx_cons (wtg c3 (i := 11) rfl rfl (by decide +kernel)) (pgsx_cons (wtg c3 (i := 12) rfl rfl (by decide +kernel)) pgsx_nil)) (tl_cons (tl_cons tl_nil)))) (fun b4 => have c4 := CF.blk c _ b4; (pxts_one (pxt_cmp (od_eq c4.un) (wv c4 (i := 12) rfl rfl (by decide +kernel)) (PX.ow (wv c4 (i := 5) rfl rfl (by decide +kernel))) (nomark _)))) (fun b5 => have c5 := CF.blk c _ b5; (wv c5 (i := 11) rfl rfl (by decide +kernel))))) (PX.frow (px_lst (pxa_cons (wv c (i := 4) rfl rfl (by decide +kernel)) pxa_nil))))))
    (pssx_cons (psx_if (pxt_not (pxt_b (px_is .str (c.gl (by decide +kernel)) T.n_isinstance rfl (c.gl (by decide +kernel)) T.n_str (wv c (i := 4) rfl rfl (by decide +kernel)))))
    (pssx_one (wset c (i := 6) rfl rfl (by decide +kernel) (PX.sh (px_op od_add (wv c (i := 6) rfl rfl (by decide +kernel)) (PX.frow (px_lc c (pix_seq (bb := true) (PX.sh (px_sl (wv c (i := 6) rfl rfl (by decide +kernel)) pxo_no (pxo_so (px_neg px_int))))) (own := [("mate", 7)]) (by decide +kernel) (by decide) (by decide) (fun b1 => have c1 := CF.blk c _ b1; (wtg c1 (i := 7) rfl rfl (by decide +kernel))) (fun _ => pxts_nil) (fun b2 => have c2 := CF.blk c _ b2; (px_tup (pxa_cons px_str (pxa_cons (wv c2 (i := 7) rfl rfl (by decide +kernel)) pxa_nil))))))))))
    pssx_nil)
    (pssx_cons (wset c (i := 7) rfl rfl (by decide +kernel) (px_ix ixd (wv c (i := 6) rfl rfl (by decide +kernel)) (PX.frow (wcallP c h__law_take hr (by decide) tk (by decide +kernel) rfl (j := 0) rfl rfl rfl (by decide +kernel) (pxa_cons (px_callB cd_len (c.gl (by decide +kernel)) T.n_len bt_len (PX.ow (wv c (i := 6) rfl rfl (by decide +kernel)))) pxa_nil) (gl_cons gl_nil))) (fun _ _ => rfl)))
    (pssx_cons (wset c (i := 8) rfl rfl (by decide +kernel) (PX.sh (wcallP c h__law_take hr (by decide) tk (by decide +kernel) rfl (j := 0) rfl rfl rfl (by decide +kernel) (pxa_cons (px_ix ixd (PX.sh (px_lst (pxa_cons px_int (pxa_cons px_int pxa_nil)))) (px_op od_sub (wv c (i := 5) rfl rfl (by decide +kernel)) px_int) (fun _ _ => rfl)) pxa_nil) (gl_cons gl_nil))))
    (pssx_cons (wset c (i := 9) rfl rfl (by decide +kernel) (px_ix ixd (PX.sh (px_lst (pxa_cons (px_tup (pxa_cons (wv c (i := 4) rfl rfl (by decide +kernel)) (pxa_cons (wv c (i := 7) rfl rfl (by decide +kernel)) pxa_nil))) (pxa_cons (px_tup (pxa_cons (wv c (i := 7) rfl rfl (by decide +kernel)) (pxa_cons (wv c (i := 4) rfl rfl (by decide +kernel)) pxa_nil))) pxa_nil)))) (PX.frow (wcallP c h__law_take hr (by decide) tk (by decide +kernel) rfl (j := 0) rfl rfl rfl (by decide +kernel) (pxa_cons px_int pxa_nil) (gl_cons gl_nil))) (fun _ _ => rfl)))
    (pssx_cons (wset c (i := 10) rfl rfl (by decide +kernel) (PX.sh (px_lst (pxa_cons (px_tup (pxa_cons px_str (pxa_cons (wv c (i := 4) rfl rfl (by decide +kernel)) pxa_nil))) (pxa_cons (PX.sh (px_op od_add (px_tup (pxa_cons px_str pxa_nil)) (PX.ow (wv c (i := 9) rfl rfl (by decide +kernel))))) (pxa_cons (PX.sh (px_op od_add (px_tup (pxa_cons px_str pxa_nil)) (PX.ow (wv c (i := 9) rfl rfl (by decide +kernel))))) (pxa_cons (PX.sh (px_op od_add (px_tup (pxa_cons px_str pxa_nil)) (PX.ow (wv c (i := 9) rfl rfl (by decide +kernel))))) pxa_nil)))))))
    (pssx_cons (wset c (i := 4) rfl rfl (by decide +kernel) (px_ix ixd (PX.sh (px_op od_add (wv c (i := 10) rfl rfl (by decide +kernel)) (PX.frow (px_lst (pxa_cons (px_tup (pxa_cons px_str (pxa_cons (wv c (i := 4) rfl rfl (by decide +kernel)) pxa_nil))) (pxa_cons (px_tup (pxa_cons px_str (pxa_cons (wv c (i := 4) rfl rfl (by decide +kernel)) pxa_nil))) pxa_nil)))))) (PX.ow (wv c (i := 8) rfl rfl (by decide +kernel))) (fun _ _ => rfl)))
    (pssx_one (wset c (i := 5) rfl rfl (by decide +kernel) (px_op od_sub (wv c (i := 5) rfl rfl (by decide +kernel)) (px_callT cd_int (c.gl (by decide +kernel)) T.n_int bt_int (px_cmp (od_eq c.un) (wv c (i := 8) rfl rfl (by decide +kernel)) px_int (nomark _))))))))))))))
    (pssx_one (psx_ret (px_tup (pxa_cons (wv c (i := 4) rfl rfl (by decide +kernel)) (pxa_cons (wv c (i := 5) rfl rfl (by decide +kernel)) pxa_nil)))))))
theorem ok__law_term (T : Tx K w mg) (h__law_take : FnX P w K mg base 1 "_law_take" P__law_take .fr m__law_take) : FnX P w K mg base 2 "_law_term" P__law_term .fr m__law_term := by
  unfold m__law_term
  exact fnx_of (N := N__law_term) (M := M__law_term) (body := den__law_term) T.d__law_term sc__law_term rfl rfl rfl (by decide) (fun _ _ _ _ _ _ us hl => match us, hl with | [_, _, _], _ => rfl) (fun X W eP ew eK em eb hr tk hp hk c => by
      subst eP; subst ew; subst eK; subst em; subst eb
      exact bd__law_term T h__law_take hr tk hp hk c)
theorem bd__law_parts {X : Cx} {W : WX} {j : Nat} {self : FDen} (T : Tx X.K X.w X.mg)  (ih : FnX X.prog X.w X.K X.mg X.base (0 + j) "_law_parts" P__law_parts .fr self) (hr : Room (0 + j) X.A) (tk : Takes X W) (hp : PassesOwn (model X.prog X.w) X.A X.env X.xe) (hk : X.env.scope.kind = .function) (c : CF X N__law_parts (defScope st__law_parts) (fun _ => true)) : PSsX X W M__law_parts .fr (defBody st__law_parts) (den__law_parts self) :=
    (pssx_cons (psx_if (pxt_b (px_is .str (c.gl (by decide +kernel)) T.n_isinstance rfl (c.gl (by decide +kernel)) T.n_str (wv c (i := 0) rfl rfl (by decide +kernel))))
    (pssx_one (psx_ret (px_lst (pxa_cons (wv c (i := 0) rfl rfl (by decide +kernel)) pxa_nil))))
    pssx_nil)
    (pssx_cons (wsetO c (i := 1) rfl rfl (by decide +kernel) (px_lst (pxa_cons (wv c (i := 0) rfl rfl (by decide +kernel)) pxa_nil)))
    (pssx_cons (psx_for hp c.calm (pix_seq (bb := true) (PX.sh (px_sl (wv c (i := 0) rfl rfl (by decide +kernel)) (pxo_so px_int) pxo_no))) (wtg c (i := 2) rfl rfl (by decide +kernel)) (pssx_one (wext c (i := 1) rfl rfl rfl (by decide +kernel) (PX.sh (wcall c ih hr (Nat.le_refl _) tk (by decide +kernel) rfl (pxa_cons (wv c (i := 2) rfl rfl (by decide +kernel)) pxa_nil) (gl_cons gl_nil))))))
    (pssx_one (psx_ret (wtake c (i := 1) rfl rfl (by decide +kernel)))))))
theorem ok__law_parts (T : Tx K w mg)  : ∀ j : Nat, FnX P w K mg base (0 + j) "_law_parts" P__law_parts .fr (m__law_parts j)
  | 0 => by
    rw [m__law_parts_z]
    exact fnx_bad T.d__law_parts sc__law_parts rfl (fun _ _ _ _ _ _ us hl => match us, hl with | [_], _ => rfl)
  | j + 1 => by
    have ih := ok__law_parts T  j
    rw [m__law_parts_s]
    exact fnx_of (N := N__law_parts) (M := M__law_parts) (body := den__law_parts (m__law_parts j)) T.d__law_parts sc__law_parts rfl rfl rfl (by decide) (fun _ _ _ _ _ _ us hl => match us, hl with | [_], _ => rfl) (fun X W eP ew eK em eb hr tk hp hk c => by
      subst eP; subst ew; subst eK; subst em; subst eb
      exact bd__law_parts T  ih hr tk hp hk c)
theorem bd__law_text {X : Cx} {W : WX} {j : Nat} {self : FDen} (T : Tx X.K X.w X.mg)  (ih : FnX X.prog X.w X.K X.mg X.base (0 + j) "_law_text" P__law_text .fr self) (hr : Room (0 + j) X.A) (tk : Takes X W) (hp : PassesOwn (model X.prog X.w) X.A X.env X.xe) (hk : X.env.scope.kind = .function) (c : CF X N__law_text (defScope st__law_text) (fun _ => true)) : PSsX X W M__law_text .fr (defBody st__law_text) (den__law_text self) :=
    (pssx_cons (psx_if (pxt_b (px_is .str (c.gl (by decide +kernel)) T.n_isinstance rfl (c.gl (by decide +kernel)) T.n_str (wv c (i := 0) rfl rfl (by decide +kernel))))
    (pssx_one (psx_ret (PX.im (PX.ow (wv c (i := 0) rfl rfl (by decide +kernel))))))
    pssx_nil)
    (pssx_one (psx_ret (px_join px_str (PX.sh (px_op od_add (PX.sh (px_lst (pxa_cons (px_ix ixd (wv c (i := 0) rfl rfl (by decide +kernel)) px_int (fun _ _ => rfl)) pxa_nil))) (PX.frow (px_lc c (pix_seq (bb := true) (PX.sh (px_sl (wv c (i := 0) rfl rfl (by decide +kernel)) (pxo_so px_int) pxo_no))) (own := [("part", 1)]) (by decide +kernel) (by decide) (by decide) (fun b1 => have c1 := CF.blk c _ b1; (wtg c1 (i := 1) rfl rfl (by decide +kernel))) (fun _ => pxts_nil) (fun b2 => have c2 := CF.blk c _ b2; (PX.sh (wcall c2 ih hr (Nat.le_refl _) takes0 (by decide +kernel) rfl (pxa_cons (wv c2 (i := 1) rfl rfl (by decide +kernel)) pxa_nil) (gl_cons gl_nil))))))))))))
theorem ok__law_text (T : Tx K w mg)  : ∀ j : Nat, FnX P w K mg base (0 + j) "_law_text" P__law_text .fr (m__law_text j)
  | 0 => by
    rw [m__law_text_z]
    exact fnx_bad T.d__law_text sc__law_text rfl (fun _ _ _ _ _ _ us hl => match us, hl with | [_], _ => rfl)
  | j + 1 => by
    have ih := ok__law_text T  j
    rw [m__law_text_s]
    exact fnx_of (N := N__law_text) (M := M__law_text) (body := den__law_text (m__law_text j)) T.d__law_text sc__law_text rfl rfl rfl (by decide) (fun _ _ _ _ _ _ us hl => match us, hl with | [_], _ => rfl) (fun X W eP ew eK em eb hr tk hp hk c => by
      subst eP; subst ew; subst eK; subst em; subst eb
      exact bd__law_text T  ih hr tk hp hk c)
theorem bd__law_width {X : Cx} {W : WX} {j : Nat} {self : FDen} (T : Tx X.K X.w X.mg)  (ih : FnX X.prog X.w X.K X.mg X.base (0 + j) "_law_width" P__law_width .fr self) (hr : Room (0 + j) X.A) (tk : Takes X W) (hp : PassesOwn (model X.prog X.w) X.A X.env X.xe) (hk : X.env.scope.kind = .function) (c : CF X N__law_width (defScope st__law_width) (fun _ => true)) : PSsX X W M__law_width .fr (defBody st__law_width) (den__law_width self) :=
    (pssx_cons (psx_if (pxt_b (px_is .str (c.gl (by decide +kernel)) T.n_isinstance rfl (c.gl (by decide +kernel)) T.n_str (wv c (i := 1) rfl rfl (by decide +kernel))))
    (pssx_one (psx_ret (PX.im (PX.ow (px_dget c.u1 (PX.sh (px_callT (cd_dict c.calm) (c.gl (by decide +kernel)) T.n_dict bt_dict (PX.ow (wv c (i := 0) rfl rfl (by decide +kernel))))) (PX.ow (wv c (i := 1) rfl rfl (by decide +kernel))) (fun _ _ => rfl))))))
    pssx_nil)
    (pssx_cons (psx_if (pxt_cmp (od_in c.un) (px_ix ixd (wv c (i := 1) rfl rfl (by decide +kernel)) px_int (fun _ _ => rfl)) (px_tup (pxa_cons px_str (pxa_cons px_str pxa_nil))) (by with_unfolding_all rfl))
    (pssx_one (psx_ret px_int))
    pssx_nil)
    (pssx_one (psx_ret (px_if (pxt_cmp (od_eq c.un) (px_ix ixd (wv c (i := 1) rfl rfl (by decide +kernel)) px_int (fun _ _ => rfl)) px_str (nomark _)) px_int (wcall c ih hr (Nat.le_refl _) tk (by decide +kernel) rfl (pxa_cons (wv c (i := 0) rfl rfl (by decide +kernel)) (pxa_cons (px_ix ixd (wv c (i := 1) rfl rfl (by decide +kernel)) px_int (fun _ _ => rfl)) pxa_nil)) (gl_cons (gl_cons gl_nil))))))))
theorem ok__law_width (T : Tx K w mg)  : ∀ j : Nat, FnX P w K mg base (0 + j) "_law_width" P__law_width .fr (m__law_width j)
  | 0 => by
    rw [m__law_width_z]
    exact fnx_bad T.d__law_width sc__law_width rfl (fun _ _ _ _ _ _ us hl => match us, hl with | [_, _], _ => rfl)
  | j + 1 => by
    have ih := ok__law_width T  j
    rw [m__law_width_s]
    exact fnx_of (N := N__law_width) (M := M__law_width) (body := den__law_width (m__law_width j)) T.d__law_width sc__law_width rfl rfl rfl (by decide) (fun _ _ _ _ _ _ us hl => match us, hl with | [_, _], _ => rfl) (fun X W eP ew eK em eb hr tk hp hk c => by
      subst eP; subst ew; subst eK; subst em; subst eb
      exact bd__law_width T  ih hr tk hp hk c)
theorem bd__law_terms {X : Cx} {W : WX} (T : Tx X.K X.w X.mg) (h__law_parts : FnX X.prog X.w X.K X.mg X.base 6 "_law_parts" P__law_parts .fr (m__law_parts 6)) (h__law_text : FnX X.prog X.w X.K X.mg X.base 6 "_law_text" P__law_text .fr (m__law_text 6)) (hr : Room (6) X.A) (tk : Takes X W) (hp : PassesOwn (model X.prog X.w) X.A X.env X.xe) (hk : X.env.scope.kind = .function) (c : CF X N__law_terms (defScope st__law_terms) (fun _ => true)) : PSsX X W M__law_terms .fr (defBody st__law_terms) den__law_terms :=
    (pssx_cons (wsetO c (i := 2) rfl rfl (by decide +kernel) px_dnew)
    (pssx_cons (psx_for hp c.calm (pix_seq (bb := true) (PX.sh (px_op od_add (PX.sh (px_lc c (pix_seq (bb := true) (wv c (i := 0) rfl rfl (by decide +kernel))) (own := [("name", 6), ("places", 7)]) (by decide +kernel) (by decide) (by decide) (fun b3 => have c3 := CF.blk c _ b3; (pgx_tup c3.calm (pgsx_cons (wtg c3 (i := 6) rfl rfl (by decide +kernel)) (pgsx_cons (wtg c3 (i := 7) rfl rfl (by decide +kernel)) pgsx_nil)) (tl_cons (tl_cons tl_nil)))) (fun _ => pxts_nil) (fun b4 => have c4 := CF.blk c _ b4; (wv c4 (i := 6) rfl rfl (by decide +kernel))))) (PX.frow (px_callT cd_list (c.gl (by decide +kernel)) T.n_list bt_list (PX.ow (wv c (i := 1) rfl rfl (by decide +kernel)))))))) (wtg c (i := 3) rfl rfl (by decide +kernel)) (pssx_one (psx_for hp c.calm (pix_seq (bb := true) (PX.sh (wcall c h__law_parts hr (by decide) tk (by decide +kernel) rfl (pxa_cons (wv c (i := 3) rfl rfl (by decide +kernel)) pxa_nil) (gl_cons gl_nil)))) (wtg c (i := 4) rfl rfl (by decide +kernel)) (pssx_one (wstK c (j := 2) rfl rfl rfl (by decide +kernel) (PX.sh (wcall c h__law_text hr (by decide) tk (by decide +kernel) rfl (pxa_cons (wv c (i := 4) rfl rfl (by decide +kernel)) pxa_nil) (gl_cons gl_nil))) (wv c (i := 4) rfl rfl (by decide +kernel)))))))
    (pssx_one (psx_ret (px_lc c (pix_seq (bb := true) (PX.sh (px_callB (cd_sorted c.calm c.un) (c.gl (by decide +kernel)) T.n_sorted bt_sorted (wo c (i := 2) rfl rfl rfl (by decide +kernel))))) (own := [("text", 5)]) (by decide +kernel) (by decide) (by decide) (fun b1 => have c1 := CF.blk c _ b1; (wtg c1 (i := 5) rfl rfl (by decide +kernel))) (fun _ => pxts_nil) (fun b2 => have c2 := CF.blk c _ b2; (wdgetO c2 (i := 2) rfl rfl rfl (by decide +kernel) (PX.ow (wv c2 (i := 5) rfl rfl (by decide +kernel))) (fun _ _ => rfl))))))))
theorem ok__law_terms (T : Tx K w mg) (h__law_parts : FnX P w K mg base 6 "_law_parts" P__law_parts .fr (m__law_parts 6)) (h__law_text : FnX P w K mg base 6 "_law_text" P__law_text .fr (m__law_text 6)) : FnX P w K mg base 7 "_law_terms" P__law_terms .fr m__law_terms := by
  unfold m__law_terms
  exact fnx_of (N := N__law_terms) (M := M__law_terms) (body := den__law_terms) T.d__law_terms sc__law_terms rfl rfl rfl (by decide) (fun _ _ _ _ _ _ us hl => match us, hl with | [_, _], _ => rfl) (fun X W eP ew eK em eb hr tk hp hk c => by
      subst eP; subst ew; subst eK; subst em; subst eb
      exact bd__law_terms T h__law_parts h__law_text hr tk hp hk c)
theorem bd__law_rows {X : Cx} {W : WX} (T : Tx X.K X.w X.mg)  (hr : Room (0) X.A) (tk : Takes X W) (hp : PassesOwn (model X.prog X.w) X.A X.env X.xe) (hk : X.env.scope.kind = .function) (c : CF X N__law_rows (defScope st__law_rows) (fun _ => true)) : PSsX X W M__law_rows .fr (defBody st__law_rows) den__law_rows :=
    (pssx_cons (psx_if (pxt_cmp (od_eq c.un) (wv c (i := 1) rfl rfl (by decide +kernel)) px_int (nomark _))
    (pssx_one (psx_ret (px_lc c (pix_rng1 (bb := true) (c.gl (by decide +kernel)) T.n_range (wv c (i := 0) rfl rfl (by decide +kernel))) (own := [("one", 3)]) (by decide +kernel) (by decide) (by decide) (fun b3 => have c3 := CF.blk c _ b3; (wtg c3 (i := 3) rfl rfl (by decide +kernel))) (fun _ => pxts_nil) (fun b4 => have c4 := CF.blk c _ b4; (px_tup (pxa_cons (wv c4 (i := 3) rfl rfl (by decide +kernel)) pxa_nil))))))
    pssx_nil)
    (pssx_cons (wsetO c (i := 2) rfl rfl (by decide +kernel) (px_lst pxa_nil))
    (pssx_cons (psx_for hp c.calm (pix_rng1 (bb := true) (c.gl (by decide +kernel)) T.n_range (wv c (i := 0) rfl rfl (by decide +kernel))) (wtg c (i := 3) rfl rfl (by decide +kernel)) (pssx_one (wext c (i := 2) rfl rfl rfl (by decide +kernel) (PX.sh (px_lc c (pix_rng1 (bb := true) (c.gl (by decide +kernel)) T.n_range (wv c (i := 0) rfl rfl (by decide +kernel))) (own := [("other", 4)]) (by decide +kernel) (by decide) (by decide) (fun b1 => have c1 := CF.blk c _ b1; (wtg c1 (i := 4) rfl rfl (by decide +kernel))) (fun _ => pxts_nil) (fun b2 => have c2 := CF.blk c _ b2; (px_tup (pxa_cons (wv c2 (i := 3) rfl rfl (by decide +kernel)) (pxa_cons (wv c2 (i := 4) rfl rfl (by decide +kernel)) pxa_nil)))))))))
    (pssx_one (psx_ret (wtake c (i := 2) rfl rfl (by decide +kernel)))))))
theorem ok__law_rows (T : Tx K w mg)  : FnX P w K mg base 1 "_law_rows" P__law_rows .fr m__law_rows := by
  unfold m__law_rows
  exact fnx_of (N := N__law_rows) (M := M__law_rows) (body := den__law_rows) T.d__law_rows sc__law_rows rfl rfl rfl (by decide) (fun _ _ _ _ _ _ us hl => match us, hl with | [_, _], _ => rfl) (fun X W eP ew eK em eb hr tk hp hk c => by
      subst eP; subst ew; subst eK; subst em; subst eb
      exact bd__law_rows T  hr tk hp hk c)
theorem bd__law_atoms {X : Cx} {W : WX} (T : Tx X.K X.w X.mg) (h__law_terms : FnX X.prog X.w X.K X.mg X.base 7 "_law_terms" P__law_terms .fr m__law_terms) (h__law_rows : FnX X.prog X.w X.K X.mg X.base 1 "_law_rows" P__law_rows .fr m__law_rows) (h__law_width : FnX X.prog X.w X.K X.mg X.base 6 "_law_width" P__law_width .fr (m__law_width 6)) (hr : Room (7) X.A) (tk : Takes X W) (hp : PassesOwn (model X.prog X.w) X.A X.env X.xe) (hk : X.env.scope.kind = .function) (c : CF X N__law_atoms (defScope st__law_atoms) (fun _ => true)) : PSsX X W M__law_atoms .fr (defBody st__law_atoms) den__law_atoms :=
    (pssx_cons (wsetO c (i := 2) rfl rfl (by decide +kernel) (px_lst pxa_nil))
    (pssx_cons (psx_for hp c.calm (pix_seq (bb := true) (PX.sh (wcall c h__law_terms hr (by decide) tk (by decide +kernel) rfl (pxa_cons (px_ix ixd (wv c (i := 0) rfl rfl (by decide +kernel)) px_int (fun _ _ => rfl)) (pxa_cons (px_ix ixd (wv c (i := 0) rfl rfl (by decide +kernel)) px_int (fun _ _ => rfl)) pxa_nil)) (gl_cons (gl_cons gl_nil))))) (wtg c (i := 3) rfl rfl (by decide +kernel)) (pssx_one (psx_if (PXW.t (pxw_or (pxt_cmp (od_eq c.un) (wv c (i := 1) rfl rfl (by decide +kernel)) px_int (nomark _)) (pxw_or1 (pxt_cmp (od_in c.un) (wv c (i := 3) rfl rfl (by decide +kernel)) (PX.ow (px_ix ixd (wv c (i := 0) rfl rfl (by decide +kernel)) px_int (fun _ _ => rfl))) (by with_unfolding_all rfl)))))
    (pssx_one (wext c (i := 2) rfl rfl rfl (by decide +kernel) (PX.sh (px_lc c (pix_seq (bb := true) (PX.sh (wcall c h__law_rows hr (by decide) tk (by decide +kernel) rfl (pxa_cons (px_ix ixd (wv c (i := 0) rfl rfl (by decide +kernel)) px_int (fun _ _ => rfl)) (pxa_cons (PX.sh (wcall c h__law_width hr (by decide) tk (by decide +kernel) rfl (pxa_cons (px_ix ixd (wv c (i := 0) rfl rfl (by decide +kernel)) px_int (fun _ _ => rfl)) (pxa_cons (wv c (i := 3) rfl rfl (by decide +kernel)) pxa_nil)) (gl_cons (gl_cons gl_nil)))) pxa_nil)) (gl_cons (gl_cons gl_nil))))) (own := [("row", 4)]) (by decide +kernel) (by decide) (by decide) (fun b1 => have c1 := CF.blk c _ b1; (wtg c1 (i := 4) rfl rfl (by decide +kernel))) (fun _ => pxts_nil) (fun b2 => have c2 := CF.blk c _ b2; (px_tup (pxa_cons (wv c2 (i := 3) rfl rfl (by decide +kernel)) (pxa_cons (wv c2 (i := 4) rfl rfl (by decide +kernel)) pxa_nil))))))))
    pssx_nil)))
    (pssx_one (psx_ret (wtake c (i := 2) rfl rfl (by decide +kernel))))))
theorem ok__law_atoms (T : Tx K w mg) (h__law_terms : FnX P w K mg base 7 "_law_terms" P__law_terms .fr m__law_terms) (h__law_rows : FnX P w K mg base 1 "_law_rows" P__law_rows .fr m__law_rows) (h__law_width : FnX P w K mg base 6 "_law_width" P__law_width .fr (m__law_width 6)) : FnX P w K mg base 8 "_law_atoms" P__law_atoms .fr m__law_atoms := by
  unfold m__law_atoms
  exact fnx_of (N := N__law_atoms) (M := M__law_atoms) (body := den__law_atoms) T.d__law_atoms sc__law_atoms rfl rfl rfl (by decide) (fun _ _ _ _ _ _ us hl => match us, hl with | [_, _], _ => rfl) (fun X W eP ew eK em eb hr tk hp hk c => by
      subst eP; subst ew; subst eK; subst em; subst eb
      exact bd__law_atoms T h__law_terms h__law_rows h__law_width hr tk hp hk c)
theorem bd__law_field {X : Cx} {W : WX} (T : Tx X.K X.w X.mg) (h__law_notions : FnX X.prog X.w X.K X.mg X.base 3 "_law_notions" P__law_notions .fr m__law_notions) (h__law_term : FnX X.prog X.w X.K X.mg X.base 2 "_law_term" P__law_term .fr m__law_term) (h__law_take : FnX X.prog X.w X.K X.mg X.base 1 "_law_take" P__law_take .fr m__law_take) (h__law_rows : FnX X.prog X.w X.K X.mg X.base 1 "_law_rows" P__law_rows .fr m__law_rows) (h__law_atoms : FnX X.prog X.w X.K X.mg X.base 8 "_law_atoms" P__law_atoms .fr m__law_atoms) (hr : Room (8) X.A) (tk : Takes X W) (hp : PassesOwn (model X.prog X.w) X.A X.env X.xe) (hk : X.env.scope.kind = .function) (c : CF X N__law_field (defScope st__law_field) (fun _ => true)) : PSsX X W M__law_field .fr (defBody st__law_field) den__law_field :=
    (pssx_cons (wset c (i := 2) rfl rfl (by decide +kernel) (PX.sh (wcallP c h__law_notions hr (by decide) tk (by decide +kernel) rfl (j := 0) rfl rfl rfl (by decide +kernel) pxa_nil gl_nil)))
    (pssx_cons (psx_asg (PX.sh (wcallP c h__law_term hr (by decide) tk (by decide +kernel) rfl (j := 0) rfl rfl rfl (by decide +kernel) (pxa_cons (wv c (i := 2) rfl rfl (by decide +kernel)) (pxa_cons px_int pxa_nil)) (gl_cons (gl_cons gl_nil)))) (pgx_tup c.calm (pgsx_cons (wtg c (i := 6) rfl rfl (by decide +kernel)) (pgsx_cons (wtg c (i := 7) rfl rfl (by decide +kernel)) pgsx_nil)) (tl_cons (tl_cons tl_nil))))
    (pssx_cons (wset c (i := 3) rfl rfl (by decide +kernel) (PX.sh (px_op od_add px_int (PX.frow (wcallP c h__law_take hr (by decide) tk (by decide +kernel) rfl (j := 0) rfl rfl rfl (by decide +kernel) (pxa_cons px_int pxa_nil) (gl_cons gl_nil))))))
    (pssx_cons (psx_while 5 hp (PXW.t (pxw_or (pxt_cmp od_gt (px_callB cd_len (c.gl (by decide +kernel)) T.n_len bt_len (PX.frow (wcall c h__law_rows hr (by decide) tk (by decide +kernel) rfl (pxa_cons (wv c (i := 3) rfl rfl (by decide +kernel)) (pxa_cons (wv c (i := 7) rfl rfl (by decide +kernel)) pxa_nil)) (gl_cons (gl_cons gl_nil))))) (PX.ow (wv c (i := 1) rfl rfl (by decide +kernel))) (nomark _)) (pxw_or1 (pxt_cmp od_gt (px_callB cd_len (c.gl (by decide +kernel)) T.n_len bt_len (PX.frow (wcall c h__law_atoms hr (by decide) tk (by decide +kernel) rfl (pxa_cons (px_tup (pxa_cons (wv c (i := 2) rfl rfl (by decide +kernel)) (pxa_cons (px_tup (pxa_cons (wv c (i := 6) rfl rfl (by decide +kernel)) pxa_nil)) (pxa_cons (wv c (i := 3) rfl rfl (by decide +kernel)) pxa_nil)))) (pxa_cons px_int pxa_nil)) (gl_cons (gl_cons gl_nil))))) px_int (nomark _))))) (pssx_one (wset c (i := 3) rfl rfl (by decide +kernel) (px_op od_sub (wv c (i := 3) rfl rfl (by decide +kernel)) px_int))))
    (pssx_cons (wsetO c (i := 4) rfl rfl (by decide +kernel) (px_lst (pxa_cons (wv c (i := 6) rfl rfl (by decide +kernel)) pxa_nil)))
    (pssx_cons (psx_for hp c.calm (pix_rng1 (bb := true) (c.gl (by decide +kernel)) T.n_range (PX.sh (wcallP c h__law_take hr (by decide) tk (by decide +kernel) rfl (j := 0) rfl rfl rfl (by decide +kernel) (pxa_cons px_int pxa_nil) (gl_cons gl_nil)))) (wtg c (i := 5) rfl rfl (by decide +kernel)) (pssx_cons (psx_asg (PX.sh (wcallP c h__law_term hr (by decide) tk (by decide +kernel) rfl (j := 0) rfl rfl rfl (by decide +kernel) (pxa_cons (wv c (i := 2) rfl rfl (by decide +kernel)) (pxa_cons (PX.sh (px_op od_add px_int (PX.frow (wcallP c h__law_take hr (by decide) tk (by decide +kernel) rfl (j := 0) rfl rfl rfl (by decide +kernel) (pxa_cons px_int pxa_nil) (gl_cons gl_nil))))) pxa_nil)) (gl_cons (gl_cons gl_nil)))) (pgx_tup c.calm (pgsx_cons (wtg c (i := 9) rfl rfl (by decide +kernel)) (pgsx_cons (wtg c (i := 7) rfl rfl (by decide +kernel)) pgsx_nil)) (tl_cons (tl_cons tl_nil))))
    (pssx_cons (wset c (i := 8) rfl rfl (by decide +kernel) (px_tup (pxa_cons (wv c (i := 2) rfl rfl (by decide +kernel)) (pxa_cons (px_callT cd_tuple (c.gl (by decide +kernel)) T.n_tuple bt_tuple (PX.frow (wopO c od_add (i := 4) rfl rfl rfl (by decide +kernel) (PX.frow (px_lst (pxa_cons (wv c (i := 9) rfl rfl (by decide +kernel)) pxa_nil)))))) (pxa_cons (wv c (i := 3) rfl rfl (by decide +kernel)) pxa_nil)))))
    (pssx_one (psx_if (PXW.t (pxw_and (pxt_cmp (od_notIn c.un) (wv c (i := 9) rfl rfl (by decide +kernel)) (wo c (i := 4) rfl rfl rfl (by decide +kernel)) (by with_unfolding_all rfl)) (pxw_and (pxt_cmp od_le (px_callB cd_len (c.gl (by decide +kernel)) T.n_len bt_len (PX.frow (wcall c h__law_atoms hr (by decide) tk (by decide +kernel) rfl (pxa_cons (wv c (i := 8) rfl rfl (by decide +kernel)) (pxa_cons px_int pxa_nil)) (gl_cons (gl_cons gl_nil))))) (PX.ow (wv c (i := 1) rfl rfl (by decide +kernel))) (nomark _)) (pxw_and1 (pxt_cmp od_le (px_callB cd_len (c.gl (by decide +kernel)) T.n_len bt_len (PX.frow (wcall c h__law_atoms hr (by decide) tk (by decide +kernel) rfl (pxa_cons (wv c (i := 8) rfl rfl (by decide +kernel)) (pxa_cons px_int pxa_nil)) (gl_cons (gl_cons gl_nil))))) px_int (nomark _))))))
    (pssx_one (wapp c (i := 4) rfl rfl rfl (by decide +kernel) (wv c (i := 9) rfl rfl (by decide +kernel))))
    pssx_nil)))))
    (pssx_one (psx_ret (px_tup (pxa_cons (wv c (i := 2) rfl rfl (by decide +kernel)) (pxa_cons (px_callT cd_tuple (c.gl (by decide +kernel)) T.n_tuple bt_tuple (wo c (i := 4) rfl rfl rfl (by decide +kernel))) (pxa_cons (wv c (i := 3) rfl rfl (by decide +kernel)) pxa_nil))))))))))))
theorem ok__law_field (T : Tx K w mg) (h__law_notions : FnX P w K mg base 3 "_law_notions" P__law_notions .fr m__law_notions) (h__law_term : FnX P w K mg base 2 "_law_term" P__law_term .fr m__law_term) (h__law_take : FnX P w K mg base 1 "_law_take" P__law_take .fr m__law_take) (h__law_rows : FnX P w K mg base 1 "_law_rows" P__law_rows .fr m__law_rows) (h__law_atoms : FnX P w K mg base 8 "_law_atoms" P__law_atoms .fr m__law_atoms) : FnX P w K mg base 9 "_law_field" P__law_field .fr m__law_field := by
  unfold m__law_field
  exact fnx_of (N := N__law_field) (M := M__law_field) (body := den__law_field) T.d__law_field sc__law_field rfl rfl rfl (by decide) (fun _ _ _ _ _ _ us hl => match us, hl with | [_, _], _ => rfl) (fun X W eP ew eK em eb hr tk hp hk c => by
      subst eP; subst ew; subst eK; subst em; subst eb
      exact bd__law_field T h__law_notions h__law_term h__law_take h__law_rows h__law_atoms hr tk hp hk c)
theorem bd__law_turnings {X : Cx} {W : WX} (T : Tx X.K X.w X.mg)  (hr : Room (0) X.A) (tk : Takes X W) (hp : PassesOwn (model X.prog X.w) X.A X.env X.xe) (hk : X.env.scope.kind = .function) (c : CF X N__law_turnings (defScope st__law_turnings) (fun _ => true)) : PSsX X W M__law_turnings .sh (defBody st__law_turnings) den__law_turnings :=
    (pssx_cons (psx_if (pxt_cmp od_lt (wv c (i := 0) rfl rfl (by decide +kernel)) px_int (nomark _))
    (pssx_one (psx_ret (px_ix ixd (PX.sh (px_lst (pxa_cons (PX.sh (px_lst (pxa_cons (px_tup (pxa_cons px_int pxa_nil)) pxa_nil))) (pxa_cons (PX.sh (px_lst (pxa_cons (px_tup (pxa_cons px_int (pxa_cons px_int pxa_nil))) (pxa_cons (px_tup (pxa_cons px_int (pxa_cons px_int pxa_nil))) pxa_nil)))) pxa_nil)))) (px_op od_sub (wv c (i := 0) rfl rfl (by decide +kernel)) px_int) (fun _ _ => rfl))))
    pssx_nil)
    (pssx_one (psx_ret (PX.sh (px_lst (pxa_cons (px_tup (pxa_cons px_int (pxa_cons px_int (pxa_cons px_int pxa_nil)))) (pxa_cons (px_tup (pxa_cons px_int (pxa_cons px_int (pxa_cons px_int pxa_nil)))) (pxa_cons (px_tup (pxa_cons px_int (pxa_cons px_int (pxa_cons px_int pxa_nil)))) (pxa_cons (px_tup (pxa_cons px_int (pxa_cons px_int (pxa_cons px_int pxa_nil)))) (pxa_cons (px_tup (pxa_cons px_int (pxa_cons px_int (pxa_cons px_int pxa_nil)))) (pxa_cons (px_tup (pxa_cons px_int (pxa_cons px_int (pxa_cons px_int pxa_nil)))) pxa_nil)))))))))))
theorem ok__law_turnings (T : Tx K w mg)  : FnX P w K mg base 1 "_law_turnings" P__law_turnings .sh m__law_turnings := by
  unfold m__law_turnings
  exact fnx_of (N := N__law_turnings) (M := M__law_turnings) (body := den__law_turnings) T.d__law_turnings sc__law_turnings rfl rfl rfl (by decide) (fun _ _ _ _ _ _ us hl => match us, hl with | [_], _ => rfl) (fun X W eP ew eK em eb hr tk hp hk c => by
      subst eP; subst ew; subst eK; subst em; subst eb
      exact bd__law_turnings T  hr tk hp hk c)
theorem bd__law_rising {X : Cx} {W : WX} (T : Tx X.K X.w X.mg) (h__law_text : FnX X.prog X.w X.K X.mg X.base 6 "_law_text" P__law_text .fr (m__law_text 6)) (hr : Room (6) X.A) (tk : Takes X W) (hp : PassesOwn (model X.prog X.w) X.A X.env X.xe) (hk : X.env.scope.kind = .function) (c : CF X N__law_rising (defScope st__law_rising) (fun _ => true)) : PSsX X W M__law_rising .fr (defBody st__law_rising) den__law_rising :=
    (pssx_cons (wsetO c (i := 1) rfl rfl (by decide +kernel) px_dnewN)
    (pssx_cons (psx_for hp c.calm (pix_seq (bb := true) (wv c (i := 0) rfl rfl (by decide +kernel))) (pgx_tup c.calm (pgsx_cons (wtg c (i := 2) rfl rfl (by decide +kernel)) (pgsx_cons (wtg c (i := 3) rfl rfl (by decide +kernel)) pgsx_nil)) (tl_cons (tl_cons tl_nil))) (pssx_one (wstN c (j := 1) rfl rfl rfl (by decide +kernel) (px_tup (pxa_cons (PX.sh (wcall c h__law_text hr (by decide) tk (by decide +kernel) rfl (pxa_cons (wv c (i := 2) rfl rfl (by decide +kernel)) pxa_nil) (gl_cons gl_nil))) (pxa_cons (wv c (i := 3) rfl rfl (by decide +kernel)) pxa_nil))) (px_tup (pxa_cons (wv c (i := 2) rfl rfl (by decide +kernel)) (pxa_cons (wv c (i := 3) rfl rfl (by decide +kernel)) pxa_nil))))))
    (pssx_one (psx_ret (px_callT cd_tuple (c.gl (by decide +kernel)) T.n_tuple bt_tuple (PX.frow (px_lc c (pix_seq (bb := true) (PX.sh (px_callB (cd_sorted c.calm c.un) (c.gl (by decide +kernel)) T.n_sorted bt_sorted (wo c (i := 1) rfl rfl rfl (by decide +kernel))))) (own := [("spot", 4)]) (by decide +kernel) (by decide) (by decide) (fun b1 => have c1 := CF.blk c _ b1; (wtg c1 (i := 4) rfl rfl (by decide +kernel))) (fun _ => pxts_nil) (fun b2 => have c2 := CF.blk c _ b2; (wngetO c2 (i := 1) rfl rfl rfl (by decide +kernel) (PX.ow (wv c2 (i := 4) rfl rfl (by decide +kernel))) (fun _ _ => rfl))))))))))
theorem ok__law_rising (T : Tx K w mg) (h__law_text : FnX P w K mg base 6 "_law_text" P__law_text .fr (m__law_text 6)) : FnX P w K mg base 7 "_law_rising" P__law_rising .fr m__law_rising := by
  unfold m__law_rising
  exact fnx_of (N := N__law_rising) (M := M__law_rising) (body := den__law_rising) T.d__law_rising sc__law_rising rfl rfl rfl (by decide) (fun _ _ _ _ _ _ us hl => match us, hl with | [_], _ => rfl) (fun X W eP ew eK em eb hr tk hp hk c => by
      subst eP; subst ew; subst eK; subst em; subst eb
      exact bd__law_rising T h__law_text hr tk hp hk c)
theorem bd__law_turned {X : Cx} {W : WX} (T : Tx X.K X.w X.mg) (h__law_rising : FnX X.prog X.w X.K X.mg X.base 7 "_law_rising" P__law_rising .fr m__law_rising) (hr : Room (7) X.A) (tk : Takes X W) (hp : PassesOwn (model X.prog X.w) X.A X.env X.xe) (hk : X.env.scope.kind = .function) (c : CF X N__law_turned (defScope st__law_turned) (fun _ => true)) : PSsX X W M__law_turned .fr (defBody st__law_turned) den__law_turned :=
    (pssx_one (psx_ret (wcall c h__law_rising hr (by decide) tk (by decide +kernel) rfl (pxa_cons (PX.sh (px_lc c (pix_seq (bb := true) (wv c (i := 0) rfl rfl (by decide +kernel))) (own := [("term", 2), ("some", 3)]) (by decide +kernel) (by decide) (by decide) (fun b1 => have c1 := CF.blk c _ b1; (pgx_tup c1.calm (pgsx_cons (wtg c1 (i := 2) rfl rfl (by decide +kernel)) (pgsx_cons (wtg c1 (i := 3) rfl rfl (by decide +kernel)) pgsx_nil)) (tl_cons (tl_cons tl_nil)))) (fun _ => pxts_nil) (fun b2 => have c2 := CF.blk c _ b2; (px_tup (pxa_cons (wv c2 (i := 2) rfl rfl (by decide +kernel)) (pxa_cons (px_callT cd_tuple (c2.gl (by decide +kernel)) T.n_tuple bt_tuple (PX.frow (px_lc c2 (pix_seq (bb := true) (wv c2 (i := 3) rfl rfl (by decide +kernel))) (own := [("one", 4)]) (by decide +kernel) (by decide) (by decide) (fun b3 => have c3 := CF.blk c2 _ b3; (wtg c3 (i := 4) rfl rfl (by decide +kernel))) (fun _ => pxts_nil) (fun b4 => have c4 := CF.blk c2 _ b4; (px_ix ixd (wv c4 (i := 1) rfl rfl (by decide +kernel)) (PX.ow (wv c4 (i := 4) rfl rfl (by decide +kernel))) (fun _ _ => rfl)))))) pxa_nil)))))) pxa_nil) (gl_cons gl_nil))))
theorem ok__law_turned (T : Tx K w mg) (h__law_rising : FnX P w K mg base 7 "_law_rising" P__law_rising .fr m__law_rising) : FnX P w K mg base 8 "_law_turned" P__law_turned .fr m__law_turned := by
  unfold m__law_turned
  exact fnx_of (N := N__law_turned) (M := M__law_turned) (body := den__law_turned) T.d__law_turned sc__law_turned rfl rfl rfl (by decide) (fun _ _ _ _ _ _ us hl => match us, hl with | [_, _], _ => rfl) (fun X W eP ew eK em eb hr tk hp hk c => by
      subst eP; subst ew; subst eK; subst em; subst eb
      exact bd__law_turned T h__law_rising hr tk hp hk c)
theorem bd__law_spots {X : Cx} {W : WX} (T : Tx X.K X.w X.mg) (h__law_atoms : FnX X.prog X.w X.K X.mg X.base 8 "_law_atoms" P__law_atoms .fr m__law_atoms) (hr : Room (8) X.A) (tk : Takes X W) (hp : PassesOwn (model X.prog X.w) X.A X.env X.xe) (hk : X.env.scope.kind = .function) (c : CF X N__law_spots (defScope st__law_spots) (fun _ => true)) : PSsX X W M__law_spots .fr (defBody st__law_spots) den__law_spots :=
    (pssx_cons (wset c (i := 2) rfl rfl (by decide +kernel) (PX.sh (wcall c h__law_atoms hr (by decide) tk (by decide +kernel) rfl (pxa_cons (wv c (i := 0) rfl rfl (by decide +kernel)) (pxa_cons px_int pxa_nil)) (gl_cons (gl_cons gl_nil)))))
    (pssx_one (psx_ret (px_callT cd_tuple (c.gl (by decide +kernel)) T.n_tuple bt_tuple (PX.frow (px_lc c (pix_seq (bb := true) (wv c (i := 1) rfl rfl (by decide +kernel))) (own := [("atom", 3)]) (by decide +kernel) (by decide) (by decide) (fun b1 => have c1 := CF.blk c _ b1; (wtg c1 (i := 3) rfl rfl (by decide +kernel))) (fun _ => pxts_nil) (fun b2 => have c2 := CF.blk c _ b2; (px_idx c2.u100 (wv c2 (i := 2) rfl rfl (by decide +kernel)) (wv c2 (i := 3) rfl rfl (by decide +kernel))))))))))
theorem ok__law_spots (T : Tx K w mg) (h__law_atoms : FnX P w K mg base 8 "_law_atoms" P__law_atoms .fr m__law_atoms) : FnX P w K mg base 9 "_law_spots" P__law_spots .fr m__law_spots := by
  unfold m__law_spots
  exact fnx_of (N := N__law_spots) (M := M__law_spots) (body := den__law_spots) T.d__law_spots sc__law_spots rfl rfl rfl (by decide) (fun _ _ _ _ _ _ us hl => match us, hl with | [_, _], _ => rfl) (fun X W eP ew eK em eb hr tk hp hk c => by
      subst eP; subst ew; subst eK; subst em; subst eb
      exact bd__law_spots T h__law_atoms hr tk hp hk c)
theorem bd__law_some {X : Cx} {W : WX} (T : Tx X.K X.w X.mg) (h__law_take : FnX X.prog X.w X.K X.mg X.base 1 "_law_take" P__law_take .fr m__law_take) (hr : Room (1) X.A) (tk : Takes X W) (hp : PassesOwn (model X.prog X.w) X.A X.env X.xe) (hk : X.env.scope.kind = .function) (c : CF X N__law_some (defScope st__law_some) (fun _ => true)) : PSsX X W M__law_some .fr (defBody st__law_some) den__law_some :=
    (pssx_one (psx_ret (px_lc c (pix_seq (bb := true) (wv c (i := 1) rfl rfl (by decide +kernel))) (own := [("thing", 3)]) (by decide +kernel) (by decide) (by decide) (fun b1 => have c1 := CF.blk c _ b1; (wtg c1 (i := 3) rfl rfl (by decide +kernel))) (fun b2 => have c2 := CF.blk c _ b2; (pxts_one (pxt_cmp (od_eq c2.un) (PX.sh (wcallP c2 h__law_take hr (by decide) takes0 (by decide +kernel) rfl (j := 0) rfl rfl rfl (by decide +kernel) (pxa_cons (wv c2 (i := 2) rfl rfl (by decide +kernel)) pxa_nil) (gl_cons gl_nil))) px_int (nomark _)))) (fun b3 => have c3 := CF.blk c _ b3; (wv c3 (i := 3) rfl rfl (by decide +kernel))))))
theorem ok__law_some (T : Tx K w mg) (h__law_take : FnX P w K mg base 1 "_law_take" P__law_take .fr m__law_take) : FnX P w K mg base 2 "_law_some" P__law_some .fr m__law_some := by
  unfold m__law_some
  exact fnx_of (N := N__law_some) (M := M__law_some) (body := den__law_some) T.d__law_some sc__law_some rfl rfl rfl (by decide) (fun _ _ _ _ _ _ us hl => match us, hl with | [_, _, _], _ => rfl) (fun X W eP ew eK em eb hr tk hp hk c => by
      subst eP; subst ew; subst eK; subst em; subst eb
      exact bd__law_some T h__law_take hr tk hp hk c)
theorem bd__law_folded {X : Cx} {W : WX} (T : Tx X.K X.w X.mg)  (hr : Room (0) X.A) (tk : Takes X W) (hp : PassesOwn (model X.prog X.w) X.A X.env X.xe) (hk : X.env.scope.kind = .function) (c : CF X N__law_folded (defScope st__law_folded) (fun _ => true)) : PSsX X W M__law_folded .fr (defBody st__law_folded) den__law_folded :=
    (pssx_one (psx_ret (px_lc c (pix_rng1 (bb := true) (c.gl (by decide +kernel)) T.n_range (px_call2 (call_max2 c.calm) (c.gl (by decide +kernel)) T.n_max bt_max px_int (px_call2 (call_min2 c.calm) (c.gl (by decide +kernel)) T.n_min bt_min (wv c (i := 1) rfl rfl (by decide +kernel)) (px_callB cd_len (c.gl (by decide +kernel)) T.n_len bt_len (PX.ow (wv c (i := 0) rfl rfl (by decide +kernel))))))) (own := [("k", 2)]) (by decide +kernel) (by decide) (by decide) (fun b1 => have c1 := CF.blk c _ b1; (wtg c1 (i := 2) rfl rfl (by decide +kernel))) (fun _ => pxts_nil) (fun b2 => have c2 := CF.blk c _ b2; (px_callB (cd_sum c2.calm) (c2.gl (by decide +kernel)) T.n_sum bt_sum (PX.frow (px_sl3 (wv c2 (i := 0) rfl rfl (by decide +kernel)) (pxo_so (PX.ow (wv c2 (i := 2) rfl rfl (by decide +kernel)))) (pxo_so px_int) (pxo_so (PX.ow (wv c2 (i := 1) rfl rfl (by decide +kernel)))))))))))
theorem ok__law_folded (T : Tx K w mg)  : FnX P w K mg base 1 "_law_folded" P__law_folded .fr m__law_folded := by
  unfold m__law_folded
  exact fnx_of (N := N__law_folded) (M := M__law_folded) (body := den__law_folded) T.d__law_folded sc__law_folded rfl rfl rfl (by decide) (fun _ _ _ _ _ _ us hl => match us, hl with | [_, _], _ => rfl) (fun X W eP ew eK em eb hr tk hp hk c => by
      subst eP; subst ew; subst eK; subst em; subst eb
      exact bd__law_folded T  hr tk hp hk c)
theorem bd__law_any_row {X : Cx} {W : WX} (T : Tx X.K X.w X.mg) (h__law_atoms : FnX X.prog X.w X.K X.mg X.base 8 "_law_atoms" P__law_atoms .fr m__law_atoms) (h__law_some : FnX X.prog X.w X.K X.mg X.base 2 "_law_some" P__law_some .fr m__law_some) (h__law_take : FnX X.prog X.w X.K X.mg X.base 1 "_law_take" P__law_take .fr m__law_take) (hr : Room (8) X.A) (tk : Takes X W) (hp : PassesOwn (model X.prog X.w) X.A X.env X.xe) (hk : X.env.scope.kind = .function) (c : CF X N__law_any_row (defScope st__law_any_row) (fun _ => true)) : PSsX X W M__law_any_row .fr (defBody st__law_any_row) den__law_any_row :=
    (pssx_cons (wset c (i := 3) rfl rfl (by decide +kernel) (PX.sh (wcall c h__law_atoms hr (by decide) tk (by decide +kernel) rfl (pxa_cons (wv c (i := 1) rfl rfl (by decide +kernel)) (pxa_cons (wv c (i := 2) rfl rfl (by decide +kernel)) pxa_nil)) (gl_cons (gl_cons gl_nil)))))
    (pssx_cons (wset c (i := 4) rfl rfl (by decide +kernel) (px_ix ixd (PX.sh (px_lst (pxa_cons px_int (pxa_cons px_int (pxa_cons px_int (pxa_cons px_int (pxa_cons px_int pxa_nil))))))) (PX.frow (wcallP c h__law_take hr (by decide) tk (by decide +kernel) rfl (j := 0) rfl rfl rfl (by decide +kernel) (pxa_cons px_int pxa_nil) (gl_cons gl_nil))) (fun _ _ => rfl)))
    (pssx_cons (wset c (i := 5) rfl rfl (by decide +kernel) (PX.sh (wcallP c h__law_some hr (by decide) tk (by decide +kernel) rfl (j := 0) rfl rfl rfl (by decide +kernel) (pxa_cons (wv c (i := 3) rfl rfl (by decide +kernel)) (pxa_cons (wv c (i := 4) rfl rfl (by decide +kernel)) pxa_nil)) (gl_cons (gl_cons gl_nil)))))
    (pssx_one (psx_ret (px_if (PXW.t (pxw_or (pxt_cmp od_gt (wv c (i := 4) rfl rfl (by decide +kernel)) px_int (nomark _)) (pxw_or1 (pxt_cmp od_gt (PX.sh (wcallP c h__law_take hr (by decide) tk (by decide +kernel) rfl (j := 0) rfl rfl rfl (by decide +kernel) (pxa_cons px_int pxa_nil) (gl_cons gl_nil))) px_int (nomark _))))) (px_callT cd_tuple (c.gl (by decide +kernel)) T.n_tuple bt_tuple (PX.ow (wv c (i := 5) rfl rfl (by decide +kernel)))) (px_tup pxa_nil)))))))
theorem ok__law_any_row (T : Tx K w mg) (h__law_atoms : FnX P w K mg base 8 "_law_atoms" P__law_atoms .fr m__law_atoms) (h__law_some : FnX P w K mg base 2 "_law_some" P__law_some .fr m__law_some) (h__law_take : FnX P w K mg base 1 "_law_take" P__law_take .fr m__law_take) : FnX P w K mg base 9 "_law_any_row" P__law_any_row .fr m__law_any_row := by
  unfold m__law_any_row
  exact fnx_of (N := N__law_any_row) (M := M__law_any_row) (body := den__law_any_row) T.d__law_any_row sc__law_any_row rfl rfl rfl (by decide) (fun _ _ _ _ _ _ us hl => match us, hl with | [_, _, _], _ => rfl) (fun X W eP ew eK em eb hr tk hp hk c => by
      subst eP; subst ew; subst eK; subst em; subst eb
      exact bd__law_any_row T h__law_atoms h__law_some h__law_take hr tk hp hk c)
theorem bd__law_due_kinds {X : Cx} {W : WX} (T : Tx X.K X.w X.mg) (h__law_turnings : FnX X.prog X.w X.K X.mg X.base 1 "_law_turnings" P__law_turnings .sh m__law_turnings) (h__law_turned : FnX X.prog X.w X.K X.mg X.base 8 "_law_turned" P__law_turned .fr m__law_turned) (h__law_spots : FnX X.prog X.w X.K X.mg X.base 9 "_law_spots" P__law_spots .fr m__law_spots) (hr : Room (9) X.A) (tk : Takes X W) (hp : PassesOwn (model X.prog X.w) X.A X.env X.xe) (hk : X.env.scope.kind = .function) (c : CF X N__law_due_kinds (defScope st__law_due_kinds) (fun _ => true)) : PSsX X W M__law_due_kinds .fr (defBody st__law_due_kinds) den__law_due_kinds :=
    (pssx_cons (wsetO c (i := 2) rfl rfl (by decide +kernel) px_dnewN)
    (pssx_cons (psx_for hp c.calm (pix_seq (bb := true) (wcall c h__law_turnings hr (by decide) tk (by decide +kernel) rfl (pxa_cons (px_ix ixd (wv c (i := 0) rfl rfl (by decide +kernel)) px_int (fun _ _ => rfl)) pxa_nil) (gl_cons gl_nil))) (wtg c (i := 3) rfl rfl (by decide +kernel)) (pssx_cons (wset c (i := 4) rfl rfl (by decide +kernel) (PX.sh (wcall c h__law_turned hr (by decide) tk (by decide +kernel) rfl (pxa_cons (wv c (i := 1) rfl rfl (by decide +kernel)) (pxa_cons (wv c (i := 3) rfl rfl (by decide +kernel)) pxa_nil)) (gl_cons (gl_cons gl_nil)))))
    (pssx_one (wstN c (j := 2) rfl rfl rfl (by decide +kernel) (PX.sh (wcall c h__law_spots hr (by decide) tk (by decide +kernel) rfl (pxa_cons (wv c (i := 0) rfl rfl (by decide +kernel)) (pxa_cons (wv c (i := 4) rfl rfl (by decide +kernel)) pxa_nil)) (gl_cons (gl_cons gl_nil)))) (wv c (i := 4) rfl rfl (by decide +kernel))))))
    (pssx_one (psx_ret (px_callT cd_tuple (c.gl (by decide +kernel)) T.n_tuple bt_tuple (PX.frow (px_lc c (pix_seq (bb := true) (PX.sh (px_callB (cd_sorted c.calm c.un) (c.gl (by decide +kernel)) T.n_sorted bt_sorted (wo c (i := 2) rfl rfl rfl (by decide +kernel))))) (own := [("spots", 5)]) (by decide +kernel) (by decide) (by decide) (fun b1 => have c1 := CF.blk c _ b1; (wtg c1 (i := 5) rfl rfl (by decide +kernel))) (fun _ => pxts_nil) (fun b2 => have c2 := CF.blk c _ b2; (wngetO c2 (i := 2) rfl rfl rfl (by decide +kernel) (PX.ow (wv c2 (i := 5) rfl rfl (by decide +kernel))) (fun _ _ => rfl))))))))))
theorem ok__law_due_kinds (T : Tx K w mg) (h__law_turnings : FnX P w K mg base 1 "_law_turnings" P__law_turnings .sh m__law_turnings) (h__law_turned : FnX P w K mg base 8 "_law_turned" P__law_turned .fr m__law_turned) (h__law_spots : FnX P w K mg base 9 "_law_spots" P__law_spots .fr m__law_spots) : FnX P w K mg base 10 "_law_due_kinds" P__law_due_kinds .fr m__law_due_kinds := by
  unfold m__law_due_kinds
  exact fnx_of (N := N__law_due_kinds) (M := M__law_due_kinds) (body := den__law_due_kinds) T.d__law_due_kinds sc__law_due_kinds rfl rfl rfl (by decide) (fun _ _ _ _ _ _ us hl => match us, hl with | [_, _], _ => rfl) (fun X W eP ew eK em eb hr tk hp hk c => by
      subst eP; subst ew; subst eK; subst em; subst eb
      exact bd__law_due_kinds T h__law_turnings h__law_turned h__law_spots hr tk hp hk c)
theorem bd__law_even {X : Cx} {W : WX} (T : Tx X.K X.w X.mg) (h__law_turnings : FnX X.prog X.w X.K X.mg X.base 1 "_law_turnings" P__law_turnings .sh m__law_turnings) (h__law_rising : FnX X.prog X.w X.K X.mg X.base 7 "_law_rising" P__law_rising .fr m__law_rising) (h__law_turned : FnX X.prog X.w X.K X.mg X.base 8 "_law_turned" P__law_turned .fr m__law_turned) (hr : Room (8) X.A) (tk : Takes X W) (hp : PassesOwn (model X.prog X.w) X.A X.env X.xe) (hk : X.env.scope.kind = .function) (c : CF X N__law_even (defScope st__law_even) (fun _ => true)) : PSsX X W M__law_even .fr (defBody st__law_even) den__law_even :=
    (pssx_cons (wsetO c (i := 2) rfl rfl (by decide +kernel) (px_lst pxa_nil))
    (pssx_cons (psx_for hp c.calm (pix_seq (bb := true) (wcall c h__law_turnings hr (by decide) tk (by decide +kernel) rfl (pxa_cons (px_ix ixd (wv c (i := 0) rfl rfl (by decide +kernel)) px_int (fun _ _ => rfl)) pxa_nil) (gl_cons gl_nil))) (wtg c (i := 3) rfl rfl (by decide +kernel)) (pssx_one (wext c (i := 2) rfl rfl rfl (by decide +kernel) (PX.sh (wcall c h__law_turned hr (by decide) tk (by decide +kernel) rfl (pxa_cons (wv c (i := 1) rfl rfl (by decide +kernel)) (pxa_cons (wv c (i := 3) rfl rfl (by decide +kernel)) pxa_nil)) (gl_cons (gl_cons gl_nil)))))))
    (pssx_one (psx_ret (wcall c h__law_rising hr (by decide) tk (by decide +kernel) rfl (pxa_cons (PX.sh (wtake c (i := 2) rfl rfl (by decide +kernel))) pxa_nil) (gl_cons gl_nil))))))
theorem ok__law_even (T : Tx K w mg) (h__law_turnings : FnX P w K mg base 1 "_law_turnings" P__law_turnings .sh m__law_turnings) (h__law_rising : FnX P w K mg base 7 "_law_rising" P__law_rising .fr m__law_rising) (h__law_turned : FnX P w K mg base 8 "_law_turned" P__law_turned .fr m__law_turned) : FnX P w K mg base 9 "_law_even" P__law_even .fr m__law_even := by
  unfold m__law_even
  exact fnx_of (N := N__law_even) (M := M__law_even) (body := den__law_even) T.d__law_even sc__law_even rfl rfl rfl (by decide) (fun _ _ _ _ _ _ us hl => match us, hl with | [_, _], _ => rfl) (fun X W eP ew eK em eb hr tk hp hk c => by
      subst eP; subst ew; subst eK; subst em; subst eb
      exact bd__law_even T h__law_turnings h__law_rising h__law_turned hr tk hp hk c)
theorem bd_law {X : Cx} {W : WX} (T : Tx X.K X.w X.mg) (h__law_folded : FnX X.prog X.w X.K X.mg X.base 1 "_law_folded" P__law_folded .fr m__law_folded) (h__law_pool : FnX X.prog X.w X.K X.mg X.base 1 "_law_pool" P__law_pool .fr m__law_pool) (h__law_field : FnX X.prog X.w X.K X.mg X.base 9 "_law_field" P__law_field .fr m__law_field) (h__law_any_row : FnX X.prog X.w X.K X.mg X.base 9 "_law_any_row" P__law_any_row .fr m__law_any_row) (h__law_even : FnX X.prog X.w X.K X.mg X.base 9 "_law_even" P__law_even .fr m__law_even) (h__law_due_kinds : FnX X.prog X.w X.K X.mg X.base 10 "_law_due_kinds" P__law_due_kinds .fr m__law_due_kinds) (h__law_same : FnX X.prog X.w X.K X.mg X.base 12 "_law_same" P__law_same .fr (m__law_same 12)) (h_kinds_of : FnX X.prog X.w X.K X.mg X.base 15 "kinds_of" P_kinds_of .fr m_kinds_of) (h_least_row : FnX X.prog X.w X.K X.mg X.base 16 "least_row" P_least_row .fr m_least_row) (hr : Room (16) X.A) (tk : Takes X W) (hp : PassesOwn (model X.prog X.w) X.A X.env X.xe) (hk : X.env.scope.kind = .function) (c : CF X N_law (defScope st_law) (fun _ => true)) : PSsX X W M_law .fr (defBody st_law) den_law :=
    (pssx_cons (wset c (i := 1) rfl rfl (by decide +kernel) (PX.sh (wcall c h__law_folded hr (by decide) tk (by decide +kernel) rfl (pxa_cons (wv c (i := 0) rfl rfl (by decide +kernel)) (pxa_cons px_int pxa_nil)) (gl_cons (gl_cons gl_nil)))))
    (pssx_cons (psx_for hp c.calm (pix_rng1 (bb := true) (c.gl (by decide +kernel)) T.n_range (px_callB cd_len (c.gl (by decide +kernel)) T.n_len bt_len (PX.ow (wv c (i := 1) rfl rfl (by decide +kernel))))) (wtg c (i := 2) rfl rfl (by decide +kernel)) (pssx_cons (wsetO c (i := 3) rfl rfl (by decide +kernel) (wcall c h__law_pool hr (by decide) tk (by decide +kernel) rfl (pxa_cons (wv c (i := 1) rfl rfl (by decide +kernel)) (pxa_cons (wv c (i := 2) rfl rfl (by decide +kernel)) pxa_nil)) (gl_cons (gl_cons gl_nil))))
    (pssx_cons (wset c (i := 4) rfl rfl (by decide +kernel) (PX.sh (wcallP c h__law_field hr (by decide) tk (by decide +kernel) rfl (j := 3) rfl rfl rfl (by decide +kernel) (pxa_cons px_int pxa_nil) (gl_cons gl_nil))))
    (pssx_cons (wsetO c (i := 5) rfl rfl (by decide +kernel) (px_lst (pxa_cons (px_tup pxa_nil) (pxa_cons (PX.sh (wcallP c h__law_any_row hr (by decide) tk (by decide +kernel) rfl (j := 3) rfl rfl rfl (by decide +kernel) (pxa_cons (wv c (i := 4) rfl rfl (by decide +kernel)) (pxa_cons px_int pxa_nil)) (gl_cons (gl_cons gl_nil)))) (pxa_cons (PX.sh (wcallP c h__law_any_row hr (by decide) tk (by decide +kernel) rfl (j := 3) rfl rfl rfl (by decide +kernel) (pxa_cons (wv c (i := 4) rfl rfl (by decide +kernel)) (pxa_cons px_int pxa_nil)) (gl_cons (gl_cons gl_nil)))) (pxa_cons (PX.sh (wcallP c h__law_any_row hr (by decide) tk (by decide +kernel) rfl (j := 3) rfl rfl rfl (by decide +kernel) (pxa_cons (wv c (i := 4) rfl rfl (by decide +kernel)) (pxa_cons px_int pxa_nil)) (gl_cons (gl_cons gl_nil)))) pxa_nil))))))
    (pssx_cons (wapp c (i := 5) rfl rfl rfl (by decide +kernel) (PX.sh (wcall c h__law_even hr (by decide) tk (by decide +kernel) rfl (pxa_cons (wv c (i := 4) rfl rfl (by decide +kernel)) (pxa_cons (PX.sh (px_sl (wixO c (i := 5) rfl rfl rfl (by decide +kernel) px_int (fun _ _ => rfl)) pxo_no (pxo_so px_int))) pxa_nil)) (gl_cons (gl_cons gl_nil)))))
    (pssx_one (psx_for hp c.calm (pix_seq (bb := true) (PX.sh (wtake c (i := 5) rfl rfl (by decide +kernel)))) (wtg c (i := 6) rfl rfl (by decide +kernel)) (pssx_cons (wset c (i := 7) rfl rfl (by decide +kernel) (px_callB (cd_repr c.gd c.u100) (c.gl (by decide +kernel)) T.n_repr bt_repr (px_tup (pxa_cons (wv c (i := 4) rfl rfl (by decide +kernel)) (pxa_cons (wv c (i := 6) rfl rfl (by decide +kernel)) pxa_nil)))))
    (pssx_cons (wset c (i := 8) rfl rfl (by decide +kernel) (PX.sh (wcall c h__law_due_kinds hr (by decide) tk (by decide +kernel) rfl (pxa_cons (wv c (i := 4) rfl rfl (by decide +kernel)) (pxa_cons (wv c (i := 6) rfl rfl (by decide +kernel)) pxa_nil)) (gl_cons (gl_cons gl_nil)))))
    (pssx_cons (psx_for hp c.calm (pix_seq (bb := true) (PX.sh (px_lst (pxa_cons (wv c (i := 6) rfl rfl (by decide +kernel)) (pxa_cons (px_ix ixd (wv c (i := 8) rfl rfl (by decide +kernel)) (px_neg px_int) (fun _ _ => rfl)) pxa_nil))))) (wtg c (i := 9) rfl rfl (by decide +kernel)) (pssx_one (psx_if (PXW.t (pxw_or (pxt_not (pxt_b (PX.frow (wcall c h__law_same hr (by decide) tk (by decide +kernel) rfl (pxa_cons (PX.sh (wcall c h_kinds_of hr (by decide) tk (by decide +kernel) rfl (pxa_cons (wv c (i := 4) rfl rfl (by decide +kernel)) (pxa_cons (wv c (i := 9) rfl rfl (by decide +kernel)) pxa_nil)) (gl_cons (gl_cons gl_nil)))) (pxa_cons (wv c (i := 8) rfl rfl (by decide +kernel)) pxa_nil)) (gl_cons (gl_cons gl_nil)))))) (pxw_or1 (pxt_not (pxt_b (PX.frow (wcall c h__law_same hr (by decide) tk (by decide +kernel) rfl (pxa_cons (PX.sh (wcall c h_least_row hr (by decide) tk (by decide +kernel) rfl (pxa_cons (wv c (i := 4) rfl rfl (by decide +kernel)) (pxa_cons (wv c (i := 9) rfl rfl (by decide +kernel)) pxa_nil)) (gl_cons (gl_cons gl_nil)))) (pxa_cons (px_ix ixd (wv c (i := 8) rfl rfl (by decide +kernel)) px_int (fun _ _ => rfl)) pxa_nil)) (gl_cons (gl_cons gl_nil)))))))))
    (pssx_one (psx_ret px_bl))
    pssx_nil)))
    (pssx_one (psx_if (pxt_cmp (od_ne c.un) (px_callB (cd_repr c.gd c.u100) (c.gl (by decide +kernel)) T.n_repr bt_repr (px_tup (pxa_cons (wv c (i := 4) rfl rfl (by decide +kernel)) (pxa_cons (wv c (i := 6) rfl rfl (by decide +kernel)) pxa_nil)))) (PX.ow (wv c (i := 7) rfl rfl (by decide +kernel))) (nomark _))
    (pssx_one (psx_ret px_bl))
    pssx_nil))))))))))))
    (pssx_one (psx_ret px_bl))))
theorem ok_law (T : Tx K w mg) (h__law_folded : FnX P w K mg base 1 "_law_folded" P__law_folded .fr m__law_folded) (h__law_pool : FnX P w K mg base 1 "_law_pool" P__law_pool .fr m__law_pool) (h__law_field : FnX P w K mg base 9 "_law_field" P__law_field .fr m__law_field) (h__law_any_row : FnX P w K mg base 9 "_law_any_row" P__law_any_row .fr m__law_any_row) (h__law_even : FnX P w K mg base 9 "_law_even" P__law_even .fr m__law_even) (h__law_due_kinds : FnX P w K mg base 10 "_law_due_kinds" P__law_due_kinds .fr m__law_due_kinds) (h__law_same : FnX P w K mg base 12 "_law_same" P__law_same .fr (m__law_same 12)) (h_kinds_of : FnX P w K mg base 15 "kinds_of" P_kinds_of .fr m_kinds_of) (h_least_row : FnX P w K mg base 16 "least_row" P_least_row .fr m_least_row) : FnX P w K mg base 17 "law" P_law .fr m_law := by
  unfold m_law
  exact fnx_of (N := N_law) (M := M_law) (body := den_law) T.d_law sc_law rfl rfl rfl (by decide) (fun _ _ _ _ _ _ us hl => match us, hl with | [_], _ => rfl) (fun X W eP ew eK em eb hr tk hp hk c => by
      subst eP; subst ew; subst eK; subst em; subst eb
      exact bd_law T h__law_folded h__law_pool h__law_field h__law_any_row h__law_even h__law_due_kinds h__law_same h_kinds_of h_least_row hr tk hp hk c)
structure All (P : Program) (w : World) (K : PySem.W.Frag) (mg : Str → Option Value) (base : Heap) : Prop where
  h_is_within : FnX P w K mg base 1 "is_within" P_is_within .fr m_is_within
  h_is_notion_name : FnX P w K mg base 1 "is_notion_name" P_is_notion_name .fr m_is_notion_name
  h_is_notion : FnX P w K mg base 2 "is_notion" P_is_notion .fr m_is_notion
  h_is_notions : FnX P w K mg base 3 "is_notions" P_is_notions .fr m_is_notions
  h_made_places : FnX P w K mg base 1 "made_places" P_made_places .fr m_made_places
  h_places_below : FnX P w K mg base 6 "places_below" P_places_below .fr (m_places_below 5)
  h_places_in : FnX P w K mg base 7 "places_in" P_places_in .fr m_places_in
  h_text_of : FnX P w K mg base 6 "text_of" P_text_of .fr (m_text_of 6)
  h_own_terms : FnX P w K mg base 1 "own_terms" P_own_terms .sh m_own_terms
  h_all_parts : FnX P w K mg base 7 "all_parts" P_all_parts .fr (m_all_parts 6)
  h_by_texts : FnX P w K mg base 7 "by_texts" P_by_texts .fr m_by_texts
  h_terms_by : FnX P w K mg base 8 "terms_by" P_terms_by .fr m_terms_by
  h_unknown_rows : FnX P w K mg base 1 "unknown_rows" P_unknown_rows .sh m_unknown_rows
  h_many_atoms : FnX P w K mg base 8 "many_atoms" P_many_atoms .fr m_many_atoms
  h_are_shown : FnX P w K mg base 8 "are_shown" P_are_shown .fr m_are_shown
  h_is_field : FnX P w K mg base 9 "is_field" P_is_field .fr m_is_field
  h_need_field : FnX P w K mg base 10 "need_field" P_need_field .fr m_need_field
  h_terms_in : FnX P w K mg base 9 "terms_in" P_terms_in .fr m_terms_in
  h_atoms_in : FnX P w K mg base 10 "atoms_in" P_atoms_in .fr m_atoms_in
  h_numbers_in : FnX P w K mg base 11 "numbers_in" P_numbers_in .fr m_numbers_in
  h_is_atom_by : FnX P w K mg base 8 "is_atom_by" P_is_atom_by .fr m_is_atom_by
  h_numbers_of : FnX P w K mg base 12 "numbers_of" P_numbers_of .fr m_numbers_of
  h_is_row_in : FnX P w K mg base 13 "is_row_in" P_is_row_in .fr m_is_row_in
  h_need_row : FnX P w K mg base 14 "need_row" P_need_row .fr m_need_row
  h_row_by : FnX P w K mg base 12 "row_by" P_row_by .fr m_row_by
  h_all_renamings : FnX P w K mg base 1 "all_renamings" P_all_renamings .fr m_all_renamings
  h_atom_by : FnX P w K mg base 1 "atom_by" P_atom_by .fr m_atom_by
  h_renamed_by : FnX P w K mg base 13 "renamed_by" P_renamed_by .fr m_renamed_by
  h_kinds_by : FnX P w K mg base 14 "kinds_by" P_kinds_by .fr m_kinds_by
  h_kinds_of : FnX P w K mg base 15 "kinds_of" P_kinds_of .fr m_kinds_of
  h_least_by : FnX P w K mg base 15 "least_by" P_least_by .fr m_least_by
  h_least_row : FnX P w K mg base 16 "least_row" P_least_row .fr m_least_row
  h__law_pool : FnX P w K mg base 1 "_law_pool" P__law_pool .fr m__law_pool
  h__law_take : FnX P w K mg base 1 "_law_take" P__law_take .fr m__law_take
  h__law_same : FnX P w K mg base 12 "_law_same" P__law_same .fr (m__law_same 12)
  h__law_names : FnX P w K mg base 2 "_law_names" P__law_names .fr m__law_names
  h__law_notions : FnX P w K mg base 3 "_law_notions" P__law_notions .fr m__law_notions
  h__law_term : FnX P w K mg base 2 "_law_term" P__law_term .fr m__law_term
  h__law_parts : FnX P w K mg base 6 "_law_parts" P__law_parts .fr (m__law_parts 6)
  h__law_text : FnX P w K mg base 6 "_law_text" P__law_text .fr (m__law_text 6)
  h__law_width : FnX P w K mg base 6 "_law_width" P__law_width .fr (m__law_width 6)
  h__law_terms : FnX P w K mg base 7 "_law_terms" P__law_terms .fr m__law_terms
  h__law_rows : FnX P w K mg base 1 "_law_rows" P__law_rows .fr m__law_rows
  h__law_atoms : FnX P w K mg base 8 "_law_atoms" P__law_atoms .fr m__law_atoms
  h__law_field : FnX P w K mg base 9 "_law_field" P__law_field .fr m__law_field
  h__law_turnings : FnX P w K mg base 1 "_law_turnings" P__law_turnings .sh m__law_turnings
  h__law_rising : FnX P w K mg base 7 "_law_rising" P__law_rising .fr m__law_rising
  h__law_turned : FnX P w K mg base 8 "_law_turned" P__law_turned .fr m__law_turned
  h__law_spots : FnX P w K mg base 9 "_law_spots" P__law_spots .fr m__law_spots
  h__law_some : FnX P w K mg base 2 "_law_some" P__law_some .fr m__law_some
  h__law_folded : FnX P w K mg base 1 "_law_folded" P__law_folded .fr m__law_folded
  h__law_any_row : FnX P w K mg base 9 "_law_any_row" P__law_any_row .fr m__law_any_row
  h__law_due_kinds : FnX P w K mg base 10 "_law_due_kinds" P__law_due_kinds .fr m__law_due_kinds
  h__law_even : FnX P w K mg base 9 "_law_even" P__law_even .fr m__law_even
  h_law : FnX P w K mg base 17 "law" P_law .fr m_law
theorem all_ok (T : Tx K w mg) : All P w K mg base := by
  have h_is_within := ok_is_within (P := P) (base := base) T 
  have h_is_notion_name := ok_is_notion_name (P := P) (base := base) T 
  have h_is_notion := ok_is_notion (P := P) (base := base) T h_is_notion_name h_is_within
  have h_is_notions := ok_is_notions (P := P) (base := base) T h_is_notion
  have h_made_places := ok_made_places (P := P) (base := base) T 
  have h_places_below := ok_places_below (P := P) (base := base) T h_made_places 5
  have h_places_in := ok_places_in (P := P) (base := base) T h_places_below
  have h_text_of := ok_text_of (P := P) (base := base) T  6
  have h_own_terms := ok_own_terms (P := P) (base := base) T 
  have h_all_parts := ok_all_parts (P := P) (base := base) T h_own_terms 6
  have h_by_texts := ok_by_texts (P := P) (base := base) T h_text_of
  have h_terms_by := ok_terms_by (P := P) (base := base) T h_by_texts h_all_parts
  have h_unknown_rows := ok_unknown_rows (P := P) (base := base) T 
  have h_many_atoms := ok_many_atoms (P := P) (base := base) T h_unknown_rows h_places_in
  have h_are_shown := ok_are_shown (P := P) (base := base) T h_by_texts h_places_in
  have h_is_field := ok_is_field (P := P) (base := base) T h_many_atoms h_is_notions h_are_shown h_is_within h_terms_by
  have h_need_field := ok_need_field (P := P) (base := base) T h_is_field
  have h_terms_in := ok_terms_in (P := P) (base := base) T h_terms_by
  have h_atoms_in := ok_atoms_in (P := P) (base := base) T h_terms_in h_unknown_rows h_places_in
  have h_numbers_in := ok_numbers_in (P := P) (base := base) T h_atoms_in
  have h_is_atom_by := ok_is_atom_by (P := P) (base := base) T h_places_in h_is_within
  have h_numbers_of := ok_numbers_of (P := P) (base := base) T h_numbers_in
  have h_is_row_in := ok_is_row_in (P := P) (base := base) T h_numbers_of h_terms_in h_is_atom_by
  have h_need_row := ok_need_row (P := P) (base := base) T h_is_row_in
  have h_row_by := ok_row_by (P := P) (base := base) T h_numbers_in
  have h_all_renamings := ok_all_renamings (P := P) (base := base) T 
  have h_atom_by := ok_atom_by (P := P) (base := base) T 
  have h_renamed_by := ok_renamed_by (P := P) (base := base) T h_row_by h_atom_by
  have h_kinds_by := ok_kinds_by (P := P) (base := base) T h_numbers_in h_all_renamings h_renamed_by
  have h_kinds_of := ok_kinds_of (P := P) (base := base) T h_need_field h_need_row h_kinds_by
  have h_least_by := ok_least_by (P := P) (base := base) T h_kinds_by
  have h_least_row := ok_least_row (P := P) (base := base) T h_need_field h_need_row h_least_by
  have h__law_pool := ok__law_pool (P := P) (base := base) T 
  have h__law_take := ok__law_take (P := P) (base := base) T 
  have h__law_same := ok__law_same (P := P) (base := base) T  12
  have h__law_names := ok__law_names (P := P) (base := base) T h__law_take
  have h__law_notions := ok__law_notions (P := P) (base := base) T h__law_names h__law_take
  have h__law_term := ok__law_term (P := P) (base := base) T h__law_take
  have h__law_parts := ok__law_parts (P := P) (base := base) T  6
  have h__law_text := ok__law_text (P := P) (base := base) T  6
  have h__law_width := ok__law_width (P := P) (base := base) T  6
  have h__law_terms := ok__law_terms (P := P) (base := base) T h__law_parts h__law_text
  have h__law_rows := ok__law_rows (P := P) (base := base) T 
  have h__law_atoms := ok__law_atoms (P := P) (base := base) T h__law_terms h__law_rows h__law_width
  have h__law_field := ok__law_field (P := P) (base := base) T h__law_notions h__law_term h__law_take h__law_rows h__law_atoms
  have h__law_turnings := ok__law_turnings (P := P) (base := base) T 
  have h__law_rising := ok__law_rising (P := P) (base := base) T h__law_text
  have h__law_turned := ok__law_turned (P := P) (base := base) T h__law_rising
  have h__law_spots := ok__law_spots (P := P) (base := base) T h__law_atoms
  have h__law_some := ok__law_some (P := P) (base := base) T h__law_take
  have h__law_folded := ok__law_folded (P := P) (base := base) T 
  have h__law_any_row := ok__law_any_row (P := P) (base := base) T h__law_atoms h__law_some h__law_take
  have h__law_due_kinds := ok__law_due_kinds (P := P) (base := base) T h__law_turnings h__law_turned h__law_spots
  have h__law_even := ok__law_even (P := P) (base := base) T h__law_turnings h__law_rising h__law_turned
  have h_law := ok_law (P := P) (base := base) T h__law_folded h__law_pool h__law_field h__law_any_row h__law_even h__law_due_kinds h__law_same h_kinds_of h_least_row
  exact ⟨h_is_within, h_is_notion_name, h_is_notion, h_is_notions, h_made_places, h_places_below, h_places_in, h_text_of, h_own_terms, h_all_parts, h_by_texts, h_terms_by, h_unknown_rows, h_many_atoms, h_are_shown, h_is_field, h_need_field, h_terms_in, h_atoms_in, h_numbers_in, h_is_atom_by, h_numbers_of, h_is_row_in, h_need_row, h_row_by, h_all_renamings, h_atom_by, h_renamed_by, h_kinds_by, h_kinds_of, h_least_by, h_least_row, h__law_pool, h__law_take, h__law_same, h__law_names, h__law_notions, h__law_term, h__law_parts, h__law_text, h__law_width, h__law_terms, h__law_rows, h__law_atoms, h__law_field, h__law_turnings, h__law_rising, h__law_turned, h__law_spots, h__law_some, h__law_folded, h__law_any_row, h__law_due_kinds, h__law_even, h_law⟩
end
end K10

set_option Elab.async false
set_option linter.all false
set_option maxRecDepth 100000
set_option maxHeartbeats 0
set_option autoImplicit false
namespace E10
open PySem PySem.Spec PyProof.Rows L2 PD K10
def fn0 : List He.DefD := [⟨("is_within", none), "is_within", "is_within", defArgs st_is_within, defBody st_is_within, defScope st_is_within, [], []⟩,
  ⟨("is_notion_name", none), "is_notion_name", "is_notion_name", defArgs st_is_notion_name, defBody st_is_notion_name, defScope st_is_notion_name, [], []⟩,
  ⟨("is_notion", none), "is_notion", "is_notion", defArgs st_is_notion, defBody st_is_notion, defScope st_is_notion, [], []⟩,
  ⟨("is_notions", none), "is_notions", "is_notions", defArgs st_is_notions, defBody st_is_notions, defScope st_is_notions, [], []⟩,
  ⟨("made_places", none), "made_places", "made_places", defArgs st_made_places, defBody st_made_places, defScope st_made_places, [], []⟩,
  ⟨("places_below", none), "places_below", "places_below", defArgs st_places_below, defBody st_places_below, defScope st_places_below, [], []⟩,
  ⟨("places_in", none), "places_in", "places_in", defArgs st_places_in, defBody st_places_in, defScope st_places_in, [], []⟩,
  ⟨("text_of", none), "text_of", "text_of", defArgs st_text_of, defBody st_text_of, defScope st_text_of, [], []⟩,
  ⟨("own_terms", none), "own_terms", "own_terms", defArgs st_own_terms, defBody st_own_terms, defScope st_own_terms, [], []⟩,
  ⟨("all_parts", none), "all_parts", "all_parts", defArgs st_all_parts, defBody st_all_parts, defScope st_all_parts, [], []⟩,
  ⟨("by_texts", none), "by_texts", "by_texts", defArgs st_by_texts, defBody st_by_texts, defScope st_by_texts, [], []⟩,
  ⟨("terms_by", none), "terms_by", "terms_by", defArgs st_terms_by, defBody st_terms_by, defScope st_terms_by, [], []⟩,
  ⟨("unknown_rows", none), "unknown_rows", "unknown_rows", defArgs st_unknown_rows, defBody st_unknown_rows, defScope st_unknown_rows, [], []⟩,
  ⟨("many_atoms", none), "many_atoms", "many_atoms", defArgs st_many_atoms, defBody st_many_atoms, defScope st_many_atoms, [], []⟩,
  ⟨("are_shown", none), "are_shown", "are_shown", defArgs st_are_shown, defBody st_are_shown, defScope st_are_shown, [], []⟩,
  ⟨("is_field", none), "is_field", "is_field", defArgs st_is_field, defBody st_is_field, defScope st_is_field, [], []⟩,
  ⟨("need_field", none), "need_field", "need_field", defArgs st_need_field, defBody st_need_field, defScope st_need_field, [], []⟩,
  ⟨("terms_in", none), "terms_in", "terms_in", defArgs st_terms_in, defBody st_terms_in, defScope st_terms_in, [], []⟩,
  ⟨("atoms_in", none), "atoms_in", "atoms_in", defArgs st_atoms_in, defBody st_atoms_in, defScope st_atoms_in, [], []⟩,
  ⟨("numbers_in", none), "numbers_in", "numbers_in", defArgs st_numbers_in, defBody st_numbers_in, defScope st_numbers_in, [], []⟩]
def fn1 : List He.DefD := [⟨("is_atom_by", none), "is_atom_by", "is_atom_by", defArgs st_is_atom_by, defBody st_is_atom_by, defScope st_is_atom_by, [], []⟩,
  ⟨("numbers_of", none), "numbers_of", "numbers_of", defArgs st_numbers_of, defBody st_numbers_of, defScope st_numbers_of, [], []⟩,
  ⟨("is_row_in", none), "is_row_in", "is_row_in", defArgs st_is_row_in, defBody st_is_row_in, defScope st_is_row_in, [], []⟩,
  ⟨("need_row", none), "need_row", "need_row", defArgs st_need_row, defBody st_need_row, defScope st_need_row, [], []⟩,
  ⟨("row_by", none), "row_by", "row_by", defArgs st_row_by, defBody st_row_by, defScope st_row_by, [], []⟩,
  ⟨("all_renamings", none), "all_renamings", "all_renamings", defArgs st_all_renamings, defBody st_all_renamings, defScope st_all_renamings, [], []⟩,
  ⟨("atom_by", none), "atom_by", "atom_by", defArgs st_atom_by, defBody st_atom_by, defScope st_atom_by, [], []⟩,
  ⟨("renamed_by", none), "renamed_by", "renamed_by", defArgs st_renamed_by, defBody st_renamed_by, defScope st_renamed_by, [], []⟩,
  ⟨("kinds_by", none), "kinds_by", "kinds_by", defArgs st_kinds_by, defBody st_kinds_by, defScope st_kinds_by, [], []⟩,
  ⟨("kinds_of", none), "kinds_of", "kinds_of", defArgs st_kinds_of, defBody st_kinds_of, defScope st_kinds_of, [], []⟩,
  ⟨("least_by", none), "least_by", "least_by", defArgs st_least_by, defBody st_least_by, defScope st_least_by, [], []⟩,
  ⟨("least_row", none), "least_row", "least_row", defArgs st_least_row, defBody st_least_row, defScope st_least_row, [], []⟩,
  ⟨("_law_pool", none), "_law_pool", "_law_pool", defArgs st__law_pool, defBody st__law_pool, defScope st__law_pool, [], []⟩,
  ⟨("_law_take", none), "_law_take", "_law_take", defArgs st__law_take, defBody st__law_take, defScope st__law_take, [], []⟩,
  ⟨("_law_same", none), "_law_same", "_law_same", defArgs st__law_same, defBody st__law_same, defScope st__law_same, [], []⟩,
  ⟨("_law_names", none), "_law_names", "_law_names", defArgs st__law_names, defBody st__law_names, defScope st__law_names, [], []⟩,
  ⟨("_law_notions", none), "_law_notions", "_law_notions", defArgs st__law_notions, defBody st__law_notions, defScope st__law_notions, [], []⟩,
  ⟨("_law_term", none), "_law_term", "_law_term", defArgs st__law_term, defBody st__law_term, defScope st__law_term, [], []⟩,
  ⟨("_law_parts", none), "_law_parts", "_law_parts", defArgs st__law_parts, defBody st__law_parts, defScope st__law_parts, [], []⟩,
  ⟨("_law_text", none), "_law_text", "_law_text", defArgs st__law_text, defBody st__law_text, defScope st__law_text, [], []⟩]
def fn2 : List He.DefD := [⟨("_law_width", none), "_law_width", "_law_width", defArgs st__law_width, defBody st__law_width, defScope st__law_width, [], []⟩,
  ⟨("_law_terms", none), "_law_terms", "_law_terms", defArgs st__law_terms, defBody st__law_terms, defScope st__law_terms, [], []⟩,
  ⟨("_law_rows", none), "_law_rows", "_law_rows", defArgs st__law_rows, defBody st__law_rows, defScope st__law_rows, [], []⟩,
  ⟨("_law_atoms", none), "_law_atoms", "_law_atoms", defArgs st__law_atoms, defBody st__law_atoms, defScope st__law_atoms, [], []⟩,
  ⟨("_law_field", none), "_law_field", "_law_field", defArgs st__law_field, defBody st__law_field, defScope st__law_field, [], []⟩,
  ⟨("_law_turnings", none), "_law_turnings", "_law_turnings", defArgs st__law_turnings, defBody st__law_turnings, defScope st__law_turnings, [], []⟩,
  ⟨("_law_rising", none), "_law_rising", "_law_rising", defArgs st__law_rising, defBody st__law_rising, defScope st__law_rising, [], []⟩,
  ⟨("_law_turned", none), "_law_turned", "_law_turned", defArgs st__law_turned, defBody st__law_turned, defScope st__law_turned, [], []⟩,
  ⟨("_law_spots", none), "_law_spots", "_law_spots", defArgs st__law_spots, defBody st__law_spots, defScope st__law_spots, [], []⟩,
  ⟨("_law_some", none), "_law_some", "_law_some", defArgs st__law_some, defBody st__law_some, defScope st__law_some, [], []⟩,
  ⟨("_law_folded", none), "_law_folded", "_law_folded", defArgs st__law_folded, defBody st__law_folded, defScope st__law_folded, [], []⟩,
  ⟨("_law_any_row", none), "_law_any_row", "_law_any_row", defArgs st__law_any_row, defBody st__law_any_row, defScope st__law_any_row, [], []⟩,
  ⟨("_law_due_kinds", none), "_law_due_kinds", "_law_due_kinds", defArgs st__law_due_kinds, defBody st__law_due_kinds, defScope st__law_due_kinds, [], []⟩,
  ⟨("_law_even", none), "_law_even", "_law_even", defArgs st__law_even, defBody st__law_even, defScope st__law_even, [], []⟩,
  ⟨("law", none), "law", "law", defArgs st_law, defBody st_law, defScope st_law, [], []⟩]
def fn : List He.DefD := fn0 ++ (fn1 ++ (fn2))
def fa0 : List He.Fa := [.glo "is_within",
  .glo "is_notion_name",
  .glo "is_notion",
  .glo "is_notions",
  .glo "made_places",
  .glo "places_below",
  .glo "places_in",
  .glo "text_of",
  .glo "own_terms",
  .glo "all_parts",
  .glo "by_texts",
  .glo "terms_by",
  .glo "unknown_rows",
  .glo "many_atoms",
  .glo "are_shown",
  .glo "is_field",
  .glo "need_field",
  .glo "terms_in",
  .glo "atoms_in",
  .glo "numbers_in",
  .glo "is_atom_by",
  .glo "numbers_of",
  .glo "is_row_in",
  .glo "need_row",
  .glo "row_by",
  .glo "all_renamings",
  .glo "atom_by",
  .glo "renamed_by",
  .glo "kinds_by",
  .glo "kinds_of"]
def fa1 : List He.Fa := [.glo "least_by",
  .glo "least_row",
  .glo "_law_pool",
  .glo "_law_take",
  .glo "_law_same",
  .glo "_law_names",
  .glo "_law_notions",
  .glo "_law_term",
  .glo "_law_parts",
  .glo "_law_text",
  .glo "_law_width",
  .glo "_law_terms",
  .glo "_law_rows",
  .glo "_law_atoms",
  .glo "_law_field",
  .glo "_law_turnings",
  .glo "_law_rising",
  .glo "_law_turned",
  .glo "_law_spots",
  .glo "_law_some",
  .glo "_law_folded",
  .glo "_law_any_row",
  .glo "_law_due_kinds",
  .glo "_law_even",
  .glo "law",
  .int "DEEPEST" 3,
  .glo "MADE_OF",
  .int "MOST_ATOMS" 40,
  .int "MOST_LETTERS" 8,
  .int "MOST_NOTIONS" 3]
def fa2 : List He.Fa := [.int "MOST_PLACES" 2,
  .int "MOST_SHOWN" 10,
  .int "MOST_TERMS" 4,
  .int "MOST_UNKNOWNS" 3,
  .glo "OF_TWO",
  .str "SMALL_LETTERS" "abcdefghijklmnopqrstuvwxyz",
  .free "all",
  .free "bool",
  .free "dict",
  .free "enumerate",
  .free "int",
  .free "isinstance",
  .free "len",
  .free "list",
  .free "max",
  .free "min",
  .free "range",
  .free "repr",
  .free "sorted",
  .free "str",
  .free "sum",
  .free "tuple",
  .free "zip"]
def fa : List He.Fa := fa0 ++ (fa1 ++ (fa2))
def ts : List He.Tab := [(fun K => He.ga K "MADE_OF", ["not", "both", "either", "turned", "chain", "some"])]
def bs : List (PySem.W.Frag → Bool) := [fun K => dicK K "MADE_OF" [("not", 1), ("both", 2), ("either", 2), ("turned", 1), ("chain", 2), ("some", 1)], fun K => tupK K "OF_TWO" ["turned", "chain", "some"]]
def names0 : List PySem.Str := ["__name__",
  "LoreError",
  "NoField",
  "NoRow",
  "__name__",
  "MADE_OF",
  "OF_TWO",
  "SMALL_LETTERS",
  "MOST_LETTERS",
  "MOST_NOTIONS",
  "MOST_PLACES",
  "DEEPEST",
  "is_within",
  "is_notion_name",
  "is_notion",
  "is_notions",
  "made_places",
  "places_below",
  "places_in",
  "text_of",
  "own_terms",
  "all_parts",
  "by_texts",
  "__name__",
  "MOST_SHOWN",
  "MOST_ATOMS",
  "MOST_TERMS",
  "MOST_UNKNOWNS",
  "terms_by",
  "unknown_rows"]
def names1 : List PySem.Str := ["many_atoms",
  "are_shown",
  "is_field",
  "need_field",
  "terms_in",
  "atoms_in",
  "numbers_in",
  "is_atom_by",
  "__name__",
  "numbers_of",
  "is_row_in",
  "need_row",
  "row_by",
  "all_renamings",
  "atom_by",
  "renamed_by",
  "kinds_by",
  "kinds_of",
  "least_by",
  "least_row",
  "__name__",
  "_law_pool",
  "_law_take",
  "_law_same",
  "_law_names",
  "_law_notions",
  "_law_term",
  "_law_parts",
  "_law_text",
  "_law_width"]
def names2 : List PySem.Str := ["_law_terms",
  "_law_rows",
  "_law_atoms",
  "_law_field",
  "_law_turnings",
  "_law_rising",
  "_law_turned",
  "_law_spots",
  "_law_some",
  "_law_folded",
  "_law_any_row",
  "_law_due_kinds",
  "_law_even"]
def names : List PySem.Str := names0 ++ (names1 ++ (names2))
abbrev R : PySem.W.OpenRow := PySem.W.OpenLaw.row PySem.Challenge.rw_lorewide_k10_least_rows_and_kinds
abbrev hk : PySem.W.Hook := hookU 4 fa fn ts bs
def ob (s : PySem.W.SharedT) : AlU := obsUG 4 fa fn ts bs (HandSHeadRun.getT s)
theorem ob_eq (s : PySem.W.SharedT) : ob s = hk.obs s.abs := obsUG_eq (HandSHeadRun.getT_eq s)
theorem run_f (w : World) : HandSHeadRun.RunEq R (PySem.W.view R.prog [73]) hk ob 3000 names (w.withFollow "special-get-raises" false) := by
  intro os
  kernel_rfl
theorem run_t (w : World) : HandSHeadRun.RunEq R (PySem.W.view R.prog [73]) hk ob 3000 names (w.withFollow "special-get-raises" true) := by
  intro os
  kernel_rfl
theorem run (w : World) : HandSHeadRun.RunEq R (PySem.W.view R.prog [73]) hk ob 3000 names w := PySem.W.byRow2 "special-get-raises" (P := fun w => HandSHeadRun.RunEq R (PySem.W.view R.prog [73]) hk ob 3000 names w) run_f run_t w
theorem tx {K : PySem.W.Frag} {w : World} {h : Heap} {mg : Str → Option Value} (X : K.In h) (G : h.Ns mainGlobals mg) (c : SaysU fa fn ts bs w K) : Tx K w mg where
  d_is_within := def_of (x := "is_within") (st := st_is_within) (He.glo_ok X G (c.t.d.fact 0 (f := .glo "is_within") rfl)) (c.t.d.def_ 0 (d := ⟨("is_within", none), "is_within", "is_within", defArgs st_is_within, defBody st_is_within, defScope st_is_within, [], []⟩) rfl)
  d_is_notion_name := def_of (x := "is_notion_name") (st := st_is_notion_name) (He.glo_ok X G (c.t.d.fact 1 (f := .glo "is_notion_name") rfl)) (c.t.d.def_ 1 (d := ⟨("is_notion_name", none), "is_notion_name", "is_notion_name", defArgs st_is_notion_name, defBody st_is_notion_name, defScope st_is_notion_name, [], []⟩) rfl)
  d_is_notion := def_of (x := "is_notion") (st := st_is_notion) (He.glo_ok X G (c.t.d.fact 2 (f := .glo "is_notion") rfl)) (c.t.d.def_ 2 (d := ⟨("is_notion", none), "is_notion", "is_notion", defArgs st_is_notion, defBody st_is_notion, defScope st_is_notion, [], []⟩) rfl)
  d_is_notions := def_of (x := "is_notions") (st := st_is_notions) (He.glo_ok X G (c.t.d.fact 3 (f := .glo "is_notions") rfl)) (c.t.d.def_ 3 (d := ⟨("is_notions", none), "is_notions", "is_notions", defArgs st_is_notions, defBody st_is_notions, defScope st_is_notions, [], []⟩) rfl)
  d_made_places := def_of (x := "made_places") (st := st_made_places) (He.glo_ok X G (c.t.d.fact 4 (f := .glo "made_places") rfl)) (c.t.d.def_ 4 (d := ⟨("made_places", none), "made_places", "made_places", defArgs st_made_places, defBody st_made_places, defScope st_made_places, [], []⟩) rfl)
  d_places_below := def_of (x := "places_below") (st := st_places_below) (He.glo_ok X G (c.t.d.fact 5 (f := .glo "places_below") rfl)) (c.t.d.def_ 5 (d := ⟨("places_below", none), "places_below", "places_below", defArgs st_places_below, defBody st_places_below, defScope st_places_below, [], []⟩) rfl)
  d_places_in := def_of (x := "places_in") (st := st_places_in) (He.glo_ok X G (c.t.d.fact 6 (f := .glo "places_in") rfl)) (c.t.d.def_ 6 (d := ⟨("places_in", none), "places_in", "places_in", defArgs st_places_in, defBody st_places_in, defScope st_places_in, [], []⟩) rfl)
  d_text_of := def_of (x := "text_of") (st := st_text_of) (He.glo_ok X G (c.t.d.fact 7 (f := .glo "text_of") rfl)) (c.t.d.def_ 7 (d := ⟨("text_of", none), "text_of", "text_of", defArgs st_text_of, defBody st_text_of, defScope st_text_of, [], []⟩) rfl)
  d_own_terms := def_of (x := "own_terms") (st := st_own_terms) (He.glo_ok X G (c.t.d.fact 8 (f := .glo "own_terms") rfl)) (c.t.d.def_ 8 (d := ⟨("own_terms", none), "own_terms", "own_terms", defArgs st_own_terms, defBody st_own_terms, defScope st_own_terms, [], []⟩) rfl)
  d_all_parts := def_of (x := "all_parts") (st := st_all_parts) (He.glo_ok X G (c.t.d.fact 9 (f := .glo "all_parts") rfl)) (c.t.d.def_ 9 (d := ⟨("all_parts", none), "all_parts", "all_parts", defArgs st_all_parts, defBody st_all_parts, defScope st_all_parts, [], []⟩) rfl)
  d_by_texts := def_of (x := "by_texts") (st := st_by_texts) (He.glo_ok X G (c.t.d.fact 10 (f := .glo "by_texts") rfl)) (c.t.d.def_ 10 (d := ⟨("by_texts", none), "by_texts", "by_texts", defArgs st_by_texts, defBody st_by_texts, defScope st_by_texts, [], []⟩) rfl)
  d_terms_by := def_of (x := "terms_by") (st := st_terms_by) (He.glo_ok X G (c.t.d.fact 11 (f := .glo "terms_by") rfl)) (c.t.d.def_ 11 (d := ⟨("terms_by", none), "terms_by", "terms_by", defArgs st_terms_by, defBody st_terms_by, defScope st_terms_by, [], []⟩) rfl)
  d_unknown_rows := def_of (x := "unknown_rows") (st := st_unknown_rows) (He.glo_ok X G (c.t.d.fact 12 (f := .glo "unknown_rows") rfl)) (c.t.d.def_ 12 (d := ⟨("unknown_rows", none), "unknown_rows", "unknown_rows", defArgs st_unknown_rows, defBody st_unknown_rows, defScope st_unknown_rows, [], []⟩) rfl)
  d_many_atoms := def_of (x := "many_atoms") (st := st_many_atoms) (He.glo_ok X G (c.t.d.fact 13 (f := .glo "many_atoms") rfl)) (c.t.d.def_ 13 (d := ⟨("many_atoms", none), "many_atoms", "many_atoms", defArgs st_many_atoms, defBody st_many_atoms, defScope st_many_atoms, [], []⟩) rfl)
  d_are_shown := def_of (x := "are_shown") (st := st_are_shown) (He.glo_ok X G (c.t.d.fact 14 (f := .glo "are_shown") rfl)) (c.t.d.def_ 14 (d := ⟨("are_shown", none), "are_shown", "are_shown", defArgs st_are_shown, defBody st_are_shown, defScope st_are_shown, [], []⟩) rfl)
  d_is_field := def_of (x := "is_field") (st := st_is_field) (He.glo_ok X G (c.t.d.fact 15 (f := .glo "is_field") rfl)) (c.t.d.def_ 15 (d := ⟨("is_field", none), "is_field", "is_field", defArgs st_is_field, defBody st_is_field, defScope st_is_field, [], []⟩) rfl)
  d_need_field := def_of (x := "need_field") (st := st_need_field) (He.glo_ok X G (c.t.d.fact 16 (f := .glo "need_field") rfl)) (c.t.d.def_ 16 (d := ⟨("need_field", none), "need_field", "need_field", defArgs st_need_field, defBody st_need_field, defScope st_need_field, [], []⟩) rfl)
  d_terms_in := def_of (x := "terms_in") (st := st_terms_in) (He.glo_ok X G (c.t.d.fact 17 (f := .glo "terms_in") rfl)) (c.t.d.def_ 17 (d := ⟨("terms_in", none), "terms_in", "terms_in", defArgs st_terms_in, defBody st_terms_in, defScope st_terms_in, [], []⟩) rfl)
  d_atoms_in := def_of (x := "atoms_in") (st := st_atoms_in) (He.glo_ok X G (c.t.d.fact 18 (f := .glo "atoms_in") rfl)) (c.t.d.def_ 18 (d := ⟨("atoms_in", none), "atoms_in", "atoms_in", defArgs st_atoms_in, defBody st_atoms_in, defScope st_atoms_in, [], []⟩) rfl)
  d_numbers_in := def_of (x := "numbers_in") (st := st_numbers_in) (He.glo_ok X G (c.t.d.fact 19 (f := .glo "numbers_in") rfl)) (c.t.d.def_ 19 (d := ⟨("numbers_in", none), "numbers_in", "numbers_in", defArgs st_numbers_in, defBody st_numbers_in, defScope st_numbers_in, [], []⟩) rfl)
  d_is_atom_by := def_of (x := "is_atom_by") (st := st_is_atom_by) (He.glo_ok X G (c.t.d.fact 20 (f := .glo "is_atom_by") rfl)) (c.t.d.def_ 20 (d := ⟨("is_atom_by", none), "is_atom_by", "is_atom_by", defArgs st_is_atom_by, defBody st_is_atom_by, defScope st_is_atom_by, [], []⟩) rfl)
  d_numbers_of := def_of (x := "numbers_of") (st := st_numbers_of) (He.glo_ok X G (c.t.d.fact 21 (f := .glo "numbers_of") rfl)) (c.t.d.def_ 21 (d := ⟨("numbers_of", none), "numbers_of", "numbers_of", defArgs st_numbers_of, defBody st_numbers_of, defScope st_numbers_of, [], []⟩) rfl)
  d_is_row_in := def_of (x := "is_row_in") (st := st_is_row_in) (He.glo_ok X G (c.t.d.fact 22 (f := .glo "is_row_in") rfl)) (c.t.d.def_ 22 (d := ⟨("is_row_in", none), "is_row_in", "is_row_in", defArgs st_is_row_in, defBody st_is_row_in, defScope st_is_row_in, [], []⟩) rfl)
  d_need_row := def_of (x := "need_row") (st := st_need_row) (He.glo_ok X G (c.t.d.fact 23 (f := .glo "need_row") rfl)) (c.t.d.def_ 23 (d := ⟨("need_row", none), "need_row", "need_row", defArgs st_need_row, defBody st_need_row, defScope st_need_row, [], []⟩) rfl)
  d_row_by := def_of (x := "row_by") (st := st_row_by) (He.glo_ok X G (c.t.d.fact 24 (f := .glo "row_by") rfl)) (c.t.d.def_ 24 (d := ⟨("row_by", none), "row_by", "row_by", defArgs st_row_by, defBody st_row_by, defScope st_row_by, [], []⟩) rfl)
  d_all_renamings := def_of (x := "all_renamings") (st := st_all_renamings) (He.glo_ok X G (c.t.d.fact 25 (f := .glo "all_renamings") rfl)) (c.t.d.def_ 25 (d := ⟨("all_renamings", none), "all_renamings", "all_renamings", defArgs st_all_renamings, defBody st_all_renamings, defScope st_all_renamings, [], []⟩) rfl)
  d_atom_by := def_of (x := "atom_by") (st := st_atom_by) (He.glo_ok X G (c.t.d.fact 26 (f := .glo "atom_by") rfl)) (c.t.d.def_ 26 (d := ⟨("atom_by", none), "atom_by", "atom_by", defArgs st_atom_by, defBody st_atom_by, defScope st_atom_by, [], []⟩) rfl)
  d_renamed_by := def_of (x := "renamed_by") (st := st_renamed_by) (He.glo_ok X G (c.t.d.fact 27 (f := .glo "renamed_by") rfl)) (c.t.d.def_ 27 (d := ⟨("renamed_by", none), "renamed_by", "renamed_by", defArgs st_renamed_by, defBody st_renamed_by, defScope st_renamed_by, [], []⟩) rfl)
  d_kinds_by := def_of (x := "kinds_by") (st := st_kinds_by) (He.glo_ok X G (c.t.d.fact 28 (f := .glo "kinds_by") rfl)) (c.t.d.def_ 28 (d := ⟨("kinds_by", none), "kinds_by", "kinds_by", defArgs st_kinds_by, defBody st_kinds_by, defScope st_kinds_by, [], []⟩) rfl)
  d_kinds_of := def_of (x := "kinds_of") (st := st_kinds_of) (He.glo_ok X G (c.t.d.fact 29 (f := .glo "kinds_of") rfl)) (c.t.d.def_ 29 (d := ⟨("kinds_of", none), "kinds_of", "kinds_of", defArgs st_kinds_of, defBody st_kinds_of, defScope st_kinds_of, [], []⟩) rfl)
  d_least_by := def_of (x := "least_by") (st := st_least_by) (He.glo_ok X G (c.t.d.fact 30 (f := .glo "least_by") rfl)) (c.t.d.def_ 30 (d := ⟨("least_by", none), "least_by", "least_by", defArgs st_least_by, defBody st_least_by, defScope st_least_by, [], []⟩) rfl)
  d_least_row := def_of (x := "least_row") (st := st_least_row) (He.glo_ok X G (c.t.d.fact 31 (f := .glo "least_row") rfl)) (c.t.d.def_ 31 (d := ⟨("least_row", none), "least_row", "least_row", defArgs st_least_row, defBody st_least_row, defScope st_least_row, [], []⟩) rfl)
  d__law_pool := def_of (x := "_law_pool") (st := st__law_pool) (He.glo_ok X G (c.t.d.fact 32 (f := .glo "_law_pool") rfl)) (c.t.d.def_ 32 (d := ⟨("_law_pool", none), "_law_pool", "_law_pool", defArgs st__law_pool, defBody st__law_pool, defScope st__law_pool, [], []⟩) rfl)
  d__law_take := def_of (x := "_law_take") (st := st__law_take) (He.glo_ok X G (c.t.d.fact 33 (f := .glo "_law_take") rfl)) (c.t.d.def_ 33 (d := ⟨("_law_take", none), "_law_take", "_law_take", defArgs st__law_take, defBody st__law_take, defScope st__law_take, [], []⟩) rfl)
  d__law_same := def_of (x := "_law_same") (st := st__law_same) (He.glo_ok X G (c.t.d.fact 34 (f := .glo "_law_same") rfl)) (c.t.d.def_ 34 (d := ⟨("_law_same", none), "_law_same", "_law_same", defArgs st__law_same, defBody st__law_same, defScope st__law_same, [], []⟩) rfl)
  d__law_names := def_of (x := "_law_names") (st := st__law_names) (He.glo_ok X G (c.t.d.fact 35 (f := .glo "_law_names") rfl)) (c.t.d.def_ 35 (d := ⟨("_law_names", none), "_law_names", "_law_names", defArgs st__law_names, defBody st__law_names, defScope st__law_names, [], []⟩) rfl)
  d__law_notions := def_of (x := "_law_notions") (st := st__law_notions) (He.glo_ok X G (c.t.d.fact 36 (f := .glo "_law_notions") rfl)) (c.t.d.def_ 36 (d := ⟨("_law_notions", none), "_law_notions", "_law_notions", defArgs st__law_notions, defBody st__law_notions, defScope st__law_notions, [], []⟩) rfl)
  d__law_term := def_of (x := "_law_term") (st := st__law_term) (He.glo_ok X G (c.t.d.fact 37 (f := .glo "_law_term") rfl)) (c.t.d.def_ 37 (d := ⟨("_law_term", none), "_law_term", "_law_term", defArgs st__law_term, defBody st__law_term, defScope st__law_term, [], []⟩) rfl)
  d__law_parts := def_of (x := "_law_parts") (st := st__law_parts) (He.glo_ok X G (c.t.d.fact 38 (f := .glo "_law_parts") rfl)) (c.t.d.def_ 38 (d := ⟨("_law_parts", none), "_law_parts", "_law_parts", defArgs st__law_parts, defBody st__law_parts, defScope st__law_parts, [], []⟩) rfl)
  d__law_text := def_of (x := "_law_text") (st := st__law_text) (He.glo_ok X G (c.t.d.fact 39 (f := .glo "_law_text") rfl)) (c.t.d.def_ 39 (d := ⟨("_law_text", none), "_law_text", "_law_text", defArgs st__law_text, defBody st__law_text, defScope st__law_text, [], []⟩) rfl)
  d__law_width := def_of (x := "_law_width") (st := st__law_width) (He.glo_ok X G (c.t.d.fact 40 (f := .glo "_law_width") rfl)) (c.t.d.def_ 40 (d := ⟨("_law_width", none), "_law_width", "_law_width", defArgs st__law_width, defBody st__law_width, defScope st__law_width, [], []⟩) rfl)
  d__law_terms := def_of (x := "_law_terms") (st := st__law_terms) (He.glo_ok X G (c.t.d.fact 41 (f := .glo "_law_terms") rfl)) (c.t.d.def_ 41 (d := ⟨("_law_terms", none), "_law_terms", "_law_terms", defArgs st__law_terms, defBody st__law_terms, defScope st__law_terms, [], []⟩) rfl)
  d__law_rows := def_of (x := "_law_rows") (st := st__law_rows) (He.glo_ok X G (c.t.d.fact 42 (f := .glo "_law_rows") rfl)) (c.t.d.def_ 42 (d := ⟨("_law_rows", none), "_law_rows", "_law_rows", defArgs st__law_rows, defBody st__law_rows, defScope st__law_rows, [], []⟩) rfl)
  d__law_atoms := def_of (x := "_law_atoms") (st := st__law_atoms) (He.glo_ok X G (c.t.d.fact 43 (f := .glo "_law_atoms") rfl)) (c.t.d.def_ 43 (d := ⟨("_law_atoms", none), "_law_atoms", "_law_atoms", defArgs st__law_atoms, defBody st__law_atoms, defScope st__law_atoms, [], []⟩) rfl)
  d__law_field := def_of (x := "_law_field") (st := st__law_field) (He.glo_ok X G (c.t.d.fact 44 (f := .glo "_law_field") rfl)) (c.t.d.def_ 44 (d := ⟨("_law_field", none), "_law_field", "_law_field", defArgs st__law_field, defBody st__law_field, defScope st__law_field, [], []⟩) rfl)
  d__law_turnings := def_of (x := "_law_turnings") (st := st__law_turnings) (He.glo_ok X G (c.t.d.fact 45 (f := .glo "_law_turnings") rfl)) (c.t.d.def_ 45 (d := ⟨("_law_turnings", none), "_law_turnings", "_law_turnings", defArgs st__law_turnings, defBody st__law_turnings, defScope st__law_turnings, [], []⟩) rfl)
  d__law_rising := def_of (x := "_law_rising") (st := st__law_rising) (He.glo_ok X G (c.t.d.fact 46 (f := .glo "_law_rising") rfl)) (c.t.d.def_ 46 (d := ⟨("_law_rising", none), "_law_rising", "_law_rising", defArgs st__law_rising, defBody st__law_rising, defScope st__law_rising, [], []⟩) rfl)
  d__law_turned := def_of (x := "_law_turned") (st := st__law_turned) (He.glo_ok X G (c.t.d.fact 47 (f := .glo "_law_turned") rfl)) (c.t.d.def_ 47 (d := ⟨("_law_turned", none), "_law_turned", "_law_turned", defArgs st__law_turned, defBody st__law_turned, defScope st__law_turned, [], []⟩) rfl)
  d__law_spots := def_of (x := "_law_spots") (st := st__law_spots) (He.glo_ok X G (c.t.d.fact 48 (f := .glo "_law_spots") rfl)) (c.t.d.def_ 48 (d := ⟨("_law_spots", none), "_law_spots", "_law_spots", defArgs st__law_spots, defBody st__law_spots, defScope st__law_spots, [], []⟩) rfl)
  d__law_some := def_of (x := "_law_some") (st := st__law_some) (He.glo_ok X G (c.t.d.fact 49 (f := .glo "_law_some") rfl)) (c.t.d.def_ 49 (d := ⟨("_law_some", none), "_law_some", "_law_some", defArgs st__law_some, defBody st__law_some, defScope st__law_some, [], []⟩) rfl)
  d__law_folded := def_of (x := "_law_folded") (st := st__law_folded) (He.glo_ok X G (c.t.d.fact 50 (f := .glo "_law_folded") rfl)) (c.t.d.def_ 50 (d := ⟨("_law_folded", none), "_law_folded", "_law_folded", defArgs st__law_folded, defBody st__law_folded, defScope st__law_folded, [], []⟩) rfl)
  d__law_any_row := def_of (x := "_law_any_row") (st := st__law_any_row) (He.glo_ok X G (c.t.d.fact 51 (f := .glo "_law_any_row") rfl)) (c.t.d.def_ 51 (d := ⟨("_law_any_row", none), "_law_any_row", "_law_any_row", defArgs st__law_any_row, defBody st__law_any_row, defScope st__law_any_row, [], []⟩) rfl)
  d__law_due_kinds := def_of (x := "_law_due_kinds") (st := st__law_due_kinds) (He.glo_ok X G (c.t.d.fact 52 (f := .glo "_law_due_kinds") rfl)) (c.t.d.def_ 52 (d := ⟨("_law_due_kinds", none), "_law_due_kinds", "_law_due_kinds", defArgs st__law_due_kinds, defBody st__law_due_kinds, defScope st__law_due_kinds, [], []⟩) rfl)
  d__law_even := def_of (x := "_law_even") (st := st__law_even) (He.glo_ok X G (c.t.d.fact 53 (f := .glo "_law_even") rfl)) (c.t.d.def_ 53 (d := ⟨("_law_even", none), "_law_even", "_law_even", defArgs st__law_even, defBody st__law_even, defScope st__law_even, [], []⟩) rfl)
  d_law := def_of (x := "law") (st := st_law) (He.glo_ok X G (c.t.d.fact 54 (f := .glo "law") rfl)) (c.t.d.def_ 54 (d := ⟨("law", none), "law", "law", defArgs st_law, defBody st_law, defScope st_law, [], []⟩) rfl)
  c_DEEPEST := let ⟨t, e⟩ := He.int_ok X G (c.t.d.fact 55 (f := .int "DEEPEST" 3) rfl); ⟨_, e, ⟨t, rfl⟩⟩
  c_MADE_OF := dicK_ok (He.glo_ok X G (c.t.d.fact 56 (f := .glo "MADE_OF") rfl)) (c.t.tab 0 (t := (fun K => He.ga K "MADE_OF", ["not", "both", "either", "turned", "chain", "some"])) rfl) (c.b 0 (b := fun K => dicK K "MADE_OF" [("not", 1), ("both", 2), ("either", 2), ("turned", 1), ("chain", 2), ("some", 1)]) rfl)
  c_MOST_ATOMS := let ⟨t, e⟩ := He.int_ok X G (c.t.d.fact 57 (f := .int "MOST_ATOMS" 40) rfl); ⟨_, e, ⟨t, rfl⟩⟩
  c_MOST_LETTERS := let ⟨t, e⟩ := He.int_ok X G (c.t.d.fact 58 (f := .int "MOST_LETTERS" 8) rfl); ⟨_, e, ⟨t, rfl⟩⟩
  c_MOST_NOTIONS := let ⟨t, e⟩ := He.int_ok X G (c.t.d.fact 59 (f := .int "MOST_NOTIONS" 3) rfl); ⟨_, e, ⟨t, rfl⟩⟩
  c_MOST_PLACES := let ⟨t, e⟩ := He.int_ok X G (c.t.d.fact 60 (f := .int "MOST_PLACES" 2) rfl); ⟨_, e, ⟨t, rfl⟩⟩
  c_MOST_SHOWN := let ⟨t, e⟩ := He.int_ok X G (c.t.d.fact 61 (f := .int "MOST_SHOWN" 10) rfl); ⟨_, e, ⟨t, rfl⟩⟩
  c_MOST_TERMS := let ⟨t, e⟩ := He.int_ok X G (c.t.d.fact 62 (f := .int "MOST_TERMS" 4) rfl); ⟨_, e, ⟨t, rfl⟩⟩
  c_MOST_UNKNOWNS := let ⟨t, e⟩ := He.int_ok X G (c.t.d.fact 63 (f := .int "MOST_UNKNOWNS" 3) rfl); ⟨_, e, ⟨t, rfl⟩⟩
  c_OF_TWO := tupK_ok (He.glo_ok X G (c.t.d.fact 64 (f := .glo "OF_TWO") rfl)) (c.b 1 (b := fun K => tupK K "OF_TWO" ["turned", "chain", "some"]) rfl)
  c_SMALL_LETTERS := let ⟨t, e⟩ := He.str_ok X G (c.t.d.fact 65 (f := .str "SMALL_LETTERS" "abcdefghijklmnopqrstuvwxyz") rfl); ⟨_, e, ⟨t, rfl⟩⟩
  n_all := He.free_ok X G (c.t.d.fact 66 (f := .free "all") rfl)
  n_bool := He.free_ok X G (c.t.d.fact 67 (f := .free "bool") rfl)
  n_dict := He.free_ok X G (c.t.d.fact 68 (f := .free "dict") rfl)
  n_enumerate := He.free_ok X G (c.t.d.fact 69 (f := .free "enumerate") rfl)
  n_int := He.free_ok X G (c.t.d.fact 70 (f := .free "int") rfl)
  n_isinstance := He.free_ok X G (c.t.d.fact 71 (f := .free "isinstance") rfl)
  n_len := He.free_ok X G (c.t.d.fact 72 (f := .free "len") rfl)
  n_list := He.free_ok X G (c.t.d.fact 73 (f := .free "list") rfl)
  n_max := He.free_ok X G (c.t.d.fact 74 (f := .free "max") rfl)
  n_min := He.free_ok X G (c.t.d.fact 75 (f := .free "min") rfl)
  n_range := He.free_ok X G (c.t.d.fact 76 (f := .free "range") rfl)
  n_repr := He.free_ok X G (c.t.d.fact 77 (f := .free "repr") rfl)
  n_sorted := He.free_ok X G (c.t.d.fact 78 (f := .free "sorted") rfl)
  n_str := He.free_ok X G (c.t.d.fact 79 (f := .free "str") rfl)
  n_sum := He.free_ok X G (c.t.d.fact 80 (f := .free "sum") rfl)
  n_tuple := He.free_ok X G (c.t.d.fact 81 (f := .free "tuple") rfl)
  n_zip := He.free_ok X G (c.t.d.fact 82 (f := .free "zip") rfl)
end E10
open PySem PySem.W PySem.Calls PyProof.Rows
set_option maxRecDepth 100000 in
set_option maxHeartbeats 0 in
theorem PySem.Challenge.cw_lorewide_k10_least_rows_and_kinds_holds : PySem.Challenge.rw_lorewide_k10_least_rows_and_kinds.Holds := by
  w_on; o_law
  refine HandSHeadRun.head_any (r := OpenLaw.row PySem.Challenge.rw_lorewide_k10_least_rows_and_kinds) (q := view (OpenLaw.row PySem.Challenge.rw_lorewide_k10_least_rows_and_kinds).prog [73]) (H := E10.hk) (ob := E10.ob) (M := 3000) (loose := E10.names) (d := HandSHeadRun.topDef (OpenLaw.row PySem.Challenge.rw_lorewide_k10_least_rows_and_kinds).prog 73) (kwd := []) E10.ob_eq
    (by kernel_rfl) (fun s => by kernel_rfl) E10.run (by kernel_rfl) (by kernel_rfl) (by kernel_rfl) (by rfl) (by first | assumption | decide +kernel) (by decide +kernel) ⟨rfl, rfl, rfl, rfl, rfl, by decide +kernel⟩ ?hw ?hc
  case hw => w_witness2
  case hc =>
    refine PD.walk_ofD (l := PySem.Challenge.rw_lorewide_k10_least_rows_and_kinds) (n := 63) (k := 17) (kk := .fr) (Fm := Mi.m_law) rfl (by decide) (by kernel_rfl) ⟨rfl, by decide, by decide⟩ ?F (fun ns => ⟨_, Mz.law_ok ns⟩)
    intro w mg h Y G
    obtain ⟨K, KX, hn, c⟩ := Y
    have e : (HandSHeadRun.topDef (OpenLaw.row PySem.Challenge.rw_lorewide_k10_least_rows_and_kinds).prog 73).name = ("law" : PySem.Str) := by kernel_rfl
    rw [e]
    exact ⟨K, KX, hn, fun base _ _ => (K10.all_ok (E10.tx KX G c)).h_law⟩

