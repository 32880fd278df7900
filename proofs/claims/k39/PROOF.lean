import PyProof.Rows.All
import Wide.All
import OpenK.AllK
import Wide.FinOn
import HandS.ForMost
import HandS.Exc
import HandS.WordsExc
import HandS.ExcOwn
import HandS.Deep
import HandS.TupAny
import HandS.Strs
import HandS.Lambda
import HandS.EndTab
import KE.SortKeyHeap
import KE.KeyNested
import KE.KDictKeyed
import KE.KDictWalk
import HandS.TupMul
import HandS.Wide
import HandS.WideBits
import HandS.TupLe
import HandS.IsInst
import HandS.SortInts
import HandS.SetFor
import HandS.Zip
import HandS.Rev
import HandS.More
import HandS.Defaults
import KE.SortData
import HandS.Head0
import HandS.HeadHook1
import KE.DataCmp
import PyProof.ListRange
import HandS.Dict
import HandS.SortKw
import HandS.Iter
import HandS.ExcIs
import HandS.HotCalls
import HandS.Head1
import HandS.Head2
import HandS.HeadEnd
import HandS.HeadHook2
import PySem.Challenge.RW_sashtable_k39_whole_parts_alone
set_option Elab.async false
set_option linter.all false
set_option maxRecDepth 100000
set_option maxHeartbeats 4000000
/-! DL, part t: tuples that are known whole (their own attributes: none), so that their methods may be called. -/
namespace L2
open PySem PySem.Spec PyProof.Rows
/-- a tuple without a dict -/
def TupN (K : PySem.W.Frag) (H : Hp) (a : Addr) (xs : List V) : Prop :=
  (∃ o : Obj, H a = some (.frz o (.tup xs)) ∧ o.dict = none) ∨
    ∃ (o : Obj) (its : Array Value) (n : Nat), K.lookup a = some o ∧ o.cls = .type "tuple" ∧ o.data = .seq its n ∧ its.size ≤ sizeLine ∧ Vals xs its.toList ∧ o.dict = none
theorem TupN.sq {K : PySem.W.Frag} {H : Hp} {a : Addr} {xs : List V} (h : TupN K H a xs) : SqT K H a xs := by
  rcases h with ⟨o, h, _⟩ | ⟨o, its, n, h1, h2, h3, h4, h5, _⟩
  · exact .inl (.inr ⟨o, h⟩)
  · exact .inr ⟨o, its, n, h1, h2, h3, h4, h5⟩
theorem TupN.mono {K : PySem.W.Frag} {H H' : Hp} {a : Addr} {xs : List V} (e : Same H H') (h : TupN K H a xs) : TupN K H' a xs := by
  rcases h with ⟨o, h, d⟩ | h
  · exact .inl ⟨o, e _ _ h, d⟩
  · exact .inr h
theorem TupN.new {K : PySem.W.Frag} {H : Hp} {a : Addr} {xs : List V} {o : Obj} (d : o.dict = none) : TupN K (upd H a (.frz o (.tup xs))) a xs := .inl ⟨o, upd_same, d⟩
/-- what a new tuple leads to -/
def NewT (xs : List V) (H : Hp) (Q : VK) : Prop := ∀ (p : Addr) (o : Obj), H p = none → o.dict = none → Q (.ref p) (upd H p (.frz o (.tup xs)))
section
variable {X : Cx} {pins : List (Addr × Obj)} {σ : St} {H : Hp} {s : Shared}
theorem Inv.laidT {xs : List V} {a : Addr} {o : Obj} {h' : Heap} {t' : Nat} (I : Inv X pins σ H s) (k : ∀ b u, s.heap.get? b = some u → h'.get? b = some u) (hp : s.heap.objs.size ≤ a) (e : h'.get? a = some o)
    (hz : xs.length ≤ sizeLine) {its : List Value} (r : Vals xs its) (it : IsTup h' a its.toArray) : Inv X pins σ (upd H a (.frz o (.tup xs))) { s with heap := h', toks := t' } :=
  I.laid k hp ⟨e, hz, its, r, it⟩
theorem Inv.tupN {a : Addr} {xs : List V} (I : Inv X pins σ H s) (h : TupN X.K H a xs) : ∃ its : List Value, Vals xs its ∧ IsTup s.heap a its.toArray ∧ xs.length ≤ sizeLine ∧ ∀ ob, s.heap.get? a = some ob → ob.dict = none := by
  obtain ⟨its, r, it, z⟩ := I.tuple h.sq
  refine ⟨its, r, it, z, fun ob e => ?_⟩
  rcases h with ⟨o, h, d⟩ | ⟨o, _, _, h1, _, _, _, _, d⟩
  · obtain ⟨e', _⟩ := I.hok a _ h
    rw [e] at e'; cases e'; exact d
  · have e' := I.kIn a o h1
    rw [e] at e'; cases e'; exact d
end
section
variable {X : Cx} {e : Expr} {es : List Expr} {te : TE} {t : TA} {pos : Pos}
def tTupZ (t : TA) : TE := fun σ H Q => t σ H fun xs H1 => xs.length ≤ sizeLine ∧ NewT xs H1 Q
theorem pe_tupZ {x1} (h : PA X es t) : PE X (.Tuple es x1 pos) (tTupZ t) := by
  refine ⟨fun pins s σ H Q I hq => ?_⟩
  refine wpAny_Tuple_spliced (thn (h.run pos pins s σ H _ I hq) fun us s1 ⟨xs, H1, I1, r, z, q⟩ => ⟨by rw [← r.length]; exact z, ?_⟩)
  have hf : H1 s1.heap.objs.size = none := I1.hok.fresh (Nat.le_refl _)
  exact ⟨.ref s1.heap.objs.size, _, I1.laidT (t' := s1.toks) (fun b u e => Heap.get?_push_of_some _ e) (Nat.le_refl _) (Heap.get?_push_size _ rfl) z r (IsTup.new _ _), rfl, q _ _ hf rfl⟩
/-- t + u -/
def rCatZ (K : PySem.W.Frag) : R2 := fun x y H Q => ∃ a b xs ys, x = .ref a ∧ y = .ref b ∧ SqT K H a xs ∧ SqT K H b ys ∧ xs.length + ys.length ≤ sizeLine ∧
  (xs = [] → Q (.ref b) H) ∧ (xs ≠ [] → ys = [] → Q (.ref a) H) ∧ (xs ≠ [] → ys ≠ [] → NewT (xs ++ ys) H Q)
theorem op_catZ : OpR X (binaryOp .Add) (rCatZ X.K) := by
  intro pins s σ H x y v u Q I rx ry h
  obtain ⟨a, b, xs, ys, rfl, rfl, ha, hb, hz, q0, q1, q2⟩ := h
  cases rx
  cases ry
  obtain ⟨its, r1, p1, _⟩ := I.tuple ha
  obtain ⟨its2, r2, p2, _⟩ := I.tuple hb
  by_cases hx : xs = []
  · subst hx
    cases r1
    exact cat_tup0 p1 p2 ⟨.ref b, H, I, rfl, q0 rfl⟩
  · refine HT.cat_tup p1 p2 (fun z => hx (r1.nil_iff.mp z)) (fun z => ⟨.ref a, H, I, rfl, q1 hx (r2.nil_iff.mp z)⟩) (fun z => ?_) (by rw [← r1.length, ← r2.length]; exact hz)
    exact ⟨.ref s.heap.objs.size, _, I.laidT (t' := s.toks) (fun b u e => Heap.get?_push_of_some _ e) (Nat.le_refl _) (Heap.get?_push_size _ rfl) (by rw [List.length_append]; exact hz) (r1.append r2) (IsTup.new _ _), rfl, q2 hx (fun w => z (r2.nil_iff.mpr w)) _ _ (I.hok.fresh (Nat.le_refl _)) rfl⟩
def rSlZ (K : PySem.W.Frag) : V → Option Int → Option Int → Hp → VK → Prop := fun x lo hi H Q => ∃ a xs, x = .ref a ∧ SqT K H a xs ∧
  (HT.sIx xs.length 0 lo = 0 ∧ HT.sIx xs.length xs.length hi = xs.length → Q (.ref a) H) ∧ (¬ (HT.sIx xs.length 0 lo = 0 ∧ HT.sIx xs.length xs.length hi = xs.length) → NewT (cutV xs lo hi) H Q)
theorem sl_tupZ : SlR X (rSlZ X.K) := by
  intro pins s σ H x v vl vu lo hi sl Q I rx hs pl pu h
  obtain ⟨a, xs, rfl, hx, q1, q2⟩ := h
  cases rx
  obtain ⟨its, r, ht, hz⟩ := I.tuple hx
  have hlen : its.toArray.size = xs.length := by rw [List.size_toArray]; exact r.length.symm
  refine ⟨"tuple", _, PyProof.Rows.slot_tuple_getitem.lookup, ht.typeIs, ?_⟩
  by_cases hw : HT.sIx xs.length 0 lo = 0 ∧ HT.sIx xs.length xs.length hi = xs.length
  · exact getItem_tuple_whole ht hs pl pu (by rw [hlen]; exact hw) ⟨.ref a, H, I, rfl, q1 hw⟩
  · refine HT.getItem_tuple_cut ht hs pl pu (by rw [hlen]; exact hw) ?_ (by rw [hlen]; exact hz)
    rw [hlen]
    exact ⟨.ref s.heap.objs.size, _, I.laidT (t' := s.toks) (fun b u e => Heap.get?_push_of_some _ e) (Nat.le_refl _) (Heap.get?_push_size _ rfl) (Nat.le_trans (cutV_length xs lo hi) hz)
      ((r.drop (HT.sIx xs.length 0 lo)).take (HT.sIx xs.length xs.length hi - HT.sIx xs.length 0 lo)) (IsTup.new _ _), rfl, q2 hw _ _ (I.hok.fresh (Nat.le_refl _)) rfl⟩
theorem call_tupleZ : CallR X (.type "tuple") (fun xs H Q => ∃ p ys, xs = [.ref p] ∧ ((SqL X.K H p ys ∧ NewT ys H Q) ∨ (SqT X.K H p ys ∧ Q (.ref p) H))) := by
  intro pins s σ H xs us Q I r h
  obtain ⟨p, ys, rfl, h⟩ := h
  obtain ⟨u, rfl, rx⟩ := vals1 r
  cases rx
  rcases h with ⟨hq, q⟩ | ⟨hq, q⟩
  · obtain ⟨its, r', pl, hz⟩ := I.list hq
    have hlen := r'.length
    refine call_tuple_list pl.isList (fun h' kp => ?_) (by simp only [List.size_toArray] <;> omega)
    have I1 : Inv X pins σ H { s with heap := h' } := I.kept (t' := s.toks) kp
    exact ⟨.ref h'.objs.size, _, I1.laidT (t' := s.toks) (fun b o e => Heap.get?_push_of_some _ e) (Nat.le_refl _) (Heap.get?_push_size _ rfl) hz r' (IsTup.new _ _), rfl, q _ _ (I1.hok.fresh (Nat.le_refl _)) rfl⟩
  · obtain ⟨its, r', pl, hz⟩ := I.tuple hq
    exact call_tuple_same pl ⟨.ref p, H, I, rfl, q⟩
end
/-! ### methods of tuples -/
section
variable {X : Cx} {o e : Expr} {es : List Expr} {to : TE} {t : TA} {name : Str} {apos cpos : Pos} {id : String} {r : V → List V → Hp → VK → Prop}
def tBMT (K : PySem.W.Frag) (r : V → List V → Hp → VK → Prop) (to : TE) (t : TA) : TE := fun σ H Q => to σ H fun x H1 => (∃ a xs, x = .ref a ∧ TupN K H1 a xs) ∧ t σ H1 fun xs H2 => r x xs H2 Q
theorem pe_bmT (pa : PlainAttrs "tuple") (slot : Slot "tuple" name id) (hty : typeOf (.builtin id) = pure (.type "method_descriptor")) (hm : MtR X id r) (ho : PE X o to) (ha : PA X (e :: es) t)
    (hbase : attributeBase o name X.env (eval o X.env) = eval o X.env := by rfl)
    (hfew : ((backTo cpos (starEach (e :: es) X.env)).all (fun x => !x.1) && (backToKw cpos (keywordEach [] X.env)).all (fun x => x.1.isSome)
      && decide ((e :: es).length + ([] : List Keyword).length + (if ([] : List Keyword).isEmpty then 0 else 1) < 30)) = true := by rfl)
    (hline : (apos.endLine == cpos.line) = true := by rfl) (hs : starEach (e :: es) X.env = (false, eval e X.env) :: starEach es X.env := by rfl) (hplain : (backTo cpos (starEach es X.env)).any (·.1) = false := by rfl) :
    PE X (.Call (.Attribute o name apos) (e :: es) [] cpos) (tBMT X.K r to t) := by
  refine ⟨fun pins s σ H Q I h => ?_⟩
  refine wpAny_Call_method_late hbase hfew hline rfl (thn (ho.run pins s σ H _ I h) fun v s1 ⟨x, H1, I1, r1, ⟨a, xs, ex, ty⟩, q1⟩ => ?_)
  subst ex
  have r1' := r1
  cases r1'
  obtain ⟨its, rv, it, hz, hd⟩ := I1.tupN ty
  refine ⟨"tuple", id, pa, slot, hty, it.typeIs, fun b eb => ?_, ?_⟩
  · cases eb
    obtain ⟨ob, e1, _⟩ := it
    exact ⟨ob, e1, hd ob e1⟩
  have hA := ha.run cpos pins s1 σ H1 _ I1 q1
  rw [hs] at hA ⊢
  refine Calls.callWith_builtin (by show (false || (backTo cpos (starEach es X.env)).any (·.1)) = false; rw [hplain] <;> rfl) (Calls.evalArgs_plain ?_)
  exact thn hA fun us s2 ⟨vs, H2, I2, r2, q2⟩ => hm pins s2 σ H2 _ vs _ us Q I2 r1 r2 q2
end
end L2

set_option Elab.async false
set_option linter.all false
set_option maxRecDepth 100000
set_option maxHeartbeats 4000000
/-! DL, part a: data, cells, footprints; what a state of the heap says of a list of cells. -/
namespace DL
open PySem PySem.Spec L2

abbrev D := PyData
/-- what a name holds: frozen data; a list, a dict of our own, its items frozen; trees of such; an instance -/
inductive Cell where
  | fz (d : D)
  | ow (ds : List D)
  | od (kvs : List (Key × D))
  | gd (gs : List (D × List D))
  | tt (cs : List Cell)
  | tl (cs : List Cell)
  | ob (C : Str) (fs : List (Str × Cell))
abbrev LE := List (Option Cell)
inductive Re (α : Type) where
  | ok (a : α) (e : LE)
  | ex (c : Str) (e : LE)
  | no
inductive Out where
  | nx (e : LE)
  | rt (c : Cell) (e : LE)
  | bk (e : LE)
  | ct (e : LE)
  | ex (c : Str) (e : LE)
  | no

end DL
namespace L2
open PySem PySem.Spec
/-! ### data in a heap -/
mutual
/-- v is the data d; lists are tracked ones -/
inductive Dq (K : PySem.W.Frag) (H : Hp) : V → PyData → Prop
  | non : Dq K H .non .none
  | bl (b : Bool) : Dq K H (.bl b) (.bool b)
  | int (i : Int) : Dq K H (.int i) (.int i)
  | str (x : Str) : Dq K H (.str x) (.str x)
  | lst {a : Addr} {xs : List V} {ds : List PyData} : SqL K H a xs → DqAll K H xs ds → Dq K H (.ref a) (.list ds)
  | tup {a : Addr} {xs : List V} {ds : List PyData} : TupN K H a xs → DqAll K H xs ds → Dq K H (.ref a) (.tuple ds)
inductive DqAll (K : PySem.W.Frag) (H : Hp) : List V → List PyData → Prop
  | nil : DqAll K H [] []
  | cons {v : V} {vs : List V} {d : PyData} {ds : List PyData} : Dq K H v d → DqAll K H vs ds → DqAll K H (v :: vs) (d :: ds)
end
mutual
theorem Dq.dp {K : PySem.W.Frag} {H : Hp} : ∀ (d : PyData) (v : V), Dq K H v d → Dp K H v d
  | .none, _, h => by cases h; exact .non
  | .bool b, _, h => by cases h; exact .bl b
  | .int i, _, h => by cases h; exact .int i
  | .str s, _, h => by cases h; exact .str s
  | .list ds, _, h => by
    cases h with
    | lst hs ha => exact .lst hs (DqAll.dp ds _ ha)
  | .tuple ds, _, h => by
    cases h with
    | tup hs ha => exact .tup hs.sq (DqAll.dp ds _ ha)
  | .dict _, _, h => by cases h
theorem DqAll.dp {K : PySem.W.Frag} {H : Hp} : ∀ (ds : List PyData) (vs : List V), DqAll K H vs ds → DpAll K H vs ds
  | [], _, h => by cases h; exact .nil
  | d :: ds, _, h => by
    cases h with
    | cons h1 h2 => exact .cons (Dq.dp d _ h1) (DqAll.dp ds _ h2)
end
theorem Rd_mono {H H' : Hp} {a : Addr} {u : HO} (e : Same H H') (h : Rd H a u) : Rd H' a u := by
  rcases h with h | ⟨o, h⟩
  · exact .inl (e _ _ h)
  · exact .inr ⟨o, e _ _ h⟩
theorem SqL_mono {K : PySem.W.Frag} {H H' : Hp} {a : Addr} {xs : List V} (e : Same H H') (h : SqL K H a xs) : SqL K H' a xs := by
  rcases h with h | h
  · exact .inl (Rd_mono e h)
  · exact .inr h
/-! ### data under more heap -/
theorem SqT_mono {K : PySem.W.Frag} {H H' : Hp} {a : Addr} {xs : List V} (e : Same H H') (h : SqT K H a xs) : SqT K H' a xs := by
  rcases h with (h | ⟨o, h⟩) | h
  · exact .inl (.inl (e _ _ h))
  · exact .inl (.inr ⟨o, e _ _ h⟩)
  · exact .inr h
mutual
theorem Dq_mono {K : PySem.W.Frag} {H H' : Hp} (e : Same H H') : ∀ (d : PyData) (v : V), Dq K H v d → Dq K H' v d
  | .none, _, h => by cases h; exact .non
  | .bool b, _, h => by cases h; exact .bl b
  | .int i, _, h => by cases h; exact .int i
  | .str s, _, h => by cases h; exact .str s
  | .list ds, _, h => by
    cases h with
    | lst hs ha => exact .lst (SqL_mono e hs) (DqAll_mono e ds _ ha)
  | .tuple ds, _, h => by
    cases h with
    | tup hs ha => exact .tup (hs.mono e) (DqAll_mono e ds _ ha)
  | .dict _, _, h => by cases h
theorem DqAll_mono {K : PySem.W.Frag} {H H' : Hp} (e : Same H H') : ∀ (ds : List PyData) (vs : List V), DqAll K H vs ds → DqAll K H' vs ds
  | [], _, h => by cases h; exact .nil
  | d :: ds, _, h => by
    cases h with
    | cons h1 h2 => exact .cons (Dq_mono e d _ h1) (DqAll_mono e ds _ h2)
end
section
variable {K : PySem.W.Frag} {H H' : Hp}
theorem DqAll.len : ∀ {vs : List V} {ds : List PyData}, DqAll K H vs ds → vs.length = ds.length
  | _, _, .nil => rfl
  | _, _, .cons _ t => congrArg (· + 1) (DqAll.len t)
theorem DqAll.at : ∀ {vs : List V} {ds : List PyData} {i : Nat} {d : PyData}, DqAll K H vs ds → ds[i]? = some d → ∃ v, vs[i]? = some v ∧ Dq K H v d
  | _, _, _, _, .nil, e => by simp at e
  | _, _, 0, _, .cons h _, e => by simp at e; subst e; exact ⟨_, rfl, h⟩
  | _, _, i + 1, d, .cons _ t, e => by
    obtain ⟨v, h1, h2⟩ := DqAll.at (i := i) (d := d) t (by simpa using e)
    exact ⟨v, by simpa using h1, h2⟩
theorem DqAll.atV : ∀ {vs : List V} {ds : List PyData} {i : Nat} {v : V}, DqAll K H vs ds → vs[i]? = some v → ∃ d, ds[i]? = some d ∧ Dq K H v d
  | _, _, _, _, .nil, e => by simp at e
  | _, _, 0, _, .cons h _, e => by simp at e; subst e; exact ⟨_, rfl, h⟩
  | _, _, i + 1, d, .cons _ t, e => by
    obtain ⟨v, h1, h2⟩ := DqAll.atV (i := i) t (by simpa using e)
    exact ⟨v, by simpa using h1, h2⟩
theorem DqAll.append : ∀ {vs ws : List V} {ds es : List PyData}, DqAll K H vs ds → DqAll K H ws es → DqAll K H (vs ++ ws) (ds ++ es)
  | _, _, _, _, .nil, b => b
  | _, _, _, _, .cons h t, b => .cons h (DqAll.append t b)
theorem DqAll.take : ∀ {vs : List V} {ds : List PyData} (n : Nat), DqAll K H vs ds → DqAll K H (vs.take n) (ds.take n)
  | _, _, 0, _ => .nil
  | _, _, _ + 1, .nil => .nil
  | _, _, n + 1, .cons h t => .cons h (DqAll.take n t)
theorem DqAll.drop : ∀ {vs : List V} {ds : List PyData} (n : Nat), DqAll K H vs ds → DqAll K H (vs.drop n) (ds.drop n)
  | _, _, 0, r => r
  | _, _, _ + 1, .nil => .nil
  | _, _, n + 1, .cons _ t => DqAll.drop n t
theorem DqAll.set : ∀ {vs : List V} {ds : List PyData} {v : V} {d : PyData} (n : Nat), Dq K H v d → DqAll K H vs ds → DqAll K H (vs.set n v) (ds.set n d)
  | _, _, _, _, _, _, .nil => .nil
  | _, _, _, _, 0, q, .cons _ t => .cons q t
  | _, _, _, _, n + 1, q, .cons h t => .cons h (DqAll.set n q t)
theorem DqAll.eraseIdx : ∀ {vs : List V} {ds : List PyData} (n : Nat), DqAll K H vs ds → DqAll K H (vs.eraseIdx n) (ds.eraseIdx n)
  | _, _, _, .nil => .nil
  | _, _, 0, .cons _ t => t
  | _, _, n + 1, .cons h t => .cons h (DqAll.eraseIdx n t)
theorem DqAll.reverse {vs : List V} {ds : List PyData} (h : DqAll K H vs ds) : DqAll K H vs.reverse ds.reverse := by
  induction vs generalizing ds with
  | nil => cases h; exact .nil
  | cons v vs ih =>
    cases h with
    | cons h1 h2 => rw [List.reverse_cons, List.reverse_cons]; exact (ih h2).append (.cons h1 .nil)
theorem DqAll.rep {v : V} {d : PyData} (h : Dq K H v d) : ∀ n : Nat, DqAll K H (List.replicate n v) (List.replicate n d)
  | 0 => .nil
  | n + 1 => .cons h (DqAll.rep h n)
theorem DqAll.repF {vs : List V} {ds : List PyData} (h : DqAll K H vs ds) : ∀ n : Nat, DqAll K H (List.replicate n vs).flatten (List.replicate n ds).flatten
  | 0 => .nil
  | n + 1 => by
    rw [List.replicate_succ, List.replicate_succ, List.flatten_cons, List.flatten_cons]
    exact h.append (DqAll.repF h n)
theorem DqAll.ints : ∀ ns : List Int, DqAll K H (ns.map V.int) (ns.map PyData.int)
  | [] => .nil
  | n :: ns => .cons (.int n) (DqAll.ints ns)
theorem DqAll.ofInts : ∀ {ns : List Int} {vs : List V}, DqAll K H vs (ns.map PyData.int) → vs = ns.map V.int
  | [], _, h => by cases h; rfl
  | n :: ns, _, h => by
    cases h with
    | cons h1 h2 => cases h1; rw [DqAll.ofInts h2]; rfl
theorem DqAll.ofStrs : ∀ {ns : List Str} {vs : List V}, DqAll K H vs (ns.map PyData.str) → vs = ns.map V.str
  | [], _, h => by cases h; rfl
  | n :: ns, _, h => by
    cases h with
    | cons h1 h2 => cases h1; rw [DqAll.ofStrs h2]; rfl
theorem DqAll.strs : ∀ ns : List Str, DqAll K H (ns.map V.str) (ns.map PyData.str)
  | [] => .nil
  | n :: ns => .cons (.str n) (DqAll.strs ns)
theorem DqAll.ofBools : ∀ {ns : List Bool} {vs : List V}, DqAll K H vs (ns.map PyData.bool) → vs = ns.map V.bl
  | [], _, h => by cases h; rfl
  | n :: ns, _, h => by
    cases h with
    | cons h1 h2 => cases h1; rw [DqAll.ofBools h2]; rfl
end

end L2
namespace DL
open PySem PySem.Spec L2
open LamX (TabS CodeO ExtN)
/-- a dict's entries -/
inductive KvP (K : PySem.W.Frag) (H : Hp) : List (Key × V) → List (Key × D) → Prop
  | nil : KvP K H [] []
  | cons {k : Key} {v : V} {d : D} {kvs : List (Key × V)} {kds : List (Key × D)} : Dq K H v d → KvP K H kvs kds → KvP K H ((k, v) :: kvs) ((k, d) :: kds)
theorem KvP.mono {K : PySem.W.Frag} {H H' : Hp} (e : Same H H') {kvs : List (Key × V)} {kds : List (Key × D)} (h : KvP K H kvs kds) : KvP K H' kvs kds := by
  induction h with
  | nil => exact .nil
  | cons h1 _ ih => exact .cons (Dq_mono e _ _ h1) ih

/-! ### tables of code objects: they grow -/
def q0 : Str := "ordered.<locals>.<lambda>"
def NT (o : HO) : Prop := ∀ ps, o ≠ .tbl ps
def NO (o : HO) : Prop := NT o ∧ ∀ c q, o ≠ CodeO c q
theorem NO.lst {vs : List V} : NO (.lst vs) := ⟨(fun _ z => by cases z), (fun _ _ z => by unfold CodeO at z; cases z)⟩
def TabStep (H H' : Hp) : Prop := ∀ P, TabS H P q0 → TabS H' P q0
theorem TabStep.refl (H : Hp) : TabStep H H := fun _ t => t
theorem TabStep.trans {H H1 H2 : Hp} (a : TabStep H H1) (b : TabStep H1 H2) : TabStep H H2 := fun P t => b P (a P t)
theorem TabStep.same {H H' : Hp} (e : Same H H') : TabStep H H' := fun P t => t.ext e
theorem TabStep.upd {H : Hp} {a : Addr} {o : HO} (h : H a = none ∨ ∃ o0, H a = some o0 ∧ NO o0) : TabStep H (upd H a o) := by
  rintro P ⟨ps, h1, h2, h3⟩
  have ne : ∀ b u, H b = some u → (∃ ps, u = .tbl ps) ∨ (∃ c q, u = CodeO c q) → b ≠ a := fun b u e k z => by
    subst z
    rcases h with q | ⟨o0, q, n1, n2⟩
    · rw [e] at q; cases q
    · rw [e] at q
      cases q
      rcases k with ⟨ps, k⟩ | ⟨c, q, k⟩
      · exact n1 ps k
      · exact n2 c q k
  refine ⟨ps, by rw [upd_ne (ne P _ h1 (.inl ⟨ps, rfl⟩))]; exact h1, h2, fun pos cv hc => ?_⟩
  obtain ⟨c, e1, e2⟩ := h3 pos cv hc
  exact ⟨c, e1, by rw [upd_ne (ne c _ e2 (.inr ⟨_, _, rfl⟩))]; exact e2⟩
/-- the code object of the def at f; its table -/
def codeOf (K : PySem.W.Frag) (f : Addr) : Option Addr := match K.lookup f with
  | some ⟨_, _, .func fd, _⟩ => (match fd.code with
    | Value.ref c => some c
    | _ => none)
  | _ => none
def tabOf (K : PySem.W.Frag) (c : Addr) : Option Addr := match K.lookup c with
  | some ⟨_, _, .fields vs, _⟩ => (match vs[11]? with
    | some (Value.ref P) => some P
    | _ => none)
  | _ => none
def TabAt (K : PySem.W.Frag) (mg : Str → Option Value) (P : Addr) : Prop := ∃ f c : Addr, mg "ordered" = some (.ref f) ∧ codeOf K f = some c ∧ tabOf K c = some P
def TabOk (K : PySem.W.Frag) (mg : Str → Option Value) (H : Hp) : Prop := ∀ P, TabAt K mg P → TabS H P q0
theorem TabOk.step {K : PySem.W.Frag} {mg : Str → Option Value} {H H' : Hp} (t : TabOk K mg H) (s : TabStep H H') : TabOk K mg H' := fun P a => s P (t P a)

/-! ### a dict that gathers lists -/
mutual
def nkey : PyData → Option NestedKey
  | .none => some .none
  | .int i => some (.num i)
  | .tuple ds => (nkeys ds).map .tup
  | _ => none
def nkeys : List PyData → Option (List NestedKey)
  | [] => some []
  | d :: ds => match nkey d, nkeys ds with
    | some k, some ks => some (k :: ks)
    | _, _ => none
end
def GdO (a : Addr) (xs : List (NestedKey × Addr × Addr)) : Heap → Prop := fun h => ∃ (o : Obj) (es : Array DictEntry) (ep : Nat), h.get? a = some o ∧ o.ExactDict ∧ o.data = .dict es ep ∧ ∀ w, es.toList = xs.map fun x => ⟨x.1.hash w, .ref x.2.1, .ref x.2.2⟩
theorem gdO_no (a : Addr) (xs : List (NestedKey × Addr × Addr)) : NO (.ext (GdO a xs)) := by
  refine ⟨(fun _ z => by cases z), fun c q z => ?_⟩
  unfold CodeO at z
  have e := HO.ext.inj z
  have h0 : ∀ b : Addr, ∀ o, ({ objs := Array.replicate (c + 1) { cls := .none, data := .fields #[.none, .str q default] } } : Heap).get? b = some o → o.data = .fields #[.none, .str q default] := fun b o h => by
    unfold Heap.get? at h
    simp only [Array.getElem?_replicate] at h
    split at h
    · cases h
    · split at h
      · cases h; rfl
      · cases h
  have h1 : GdO a xs ({ objs := Array.replicate (c + 1) { cls := .none, data := .fields #[.none, .str q default] } } : Heap) := by
    rw [e]
    refine ⟨{ cls := .none, data := .fields #[.none, .str q default] }, #[.none, .str q default], default, ?_, rfl, rfl⟩
    unfold Heap.get?
    simp only [Array.getElem?_replicate]
    rw [if_pos (Nat.lt_succ_self c)]
  obtain ⟨o, es, ep, g1, g2, g3, _⟩ := h1
  rw [h0 a o g1] at g3
  cases g3
inductive GdAll (K : PySem.W.Frag) (F H : Hp) : List (NestedKey × Addr × Addr) → List (D × List D) → List Addr → Prop
  | nil : GdAll K F H [] [] []
  | cons {k : NestedKey} {b c : Addr} {d : D} {vs : List V} {ds : List D} {xs : List (NestedKey × Addr × Addr)} {gs : List (D × List D)} {l : List Addr} : nkey d = some k → k.depth ≤ 8 → Dq K F (.ref b) d → F c = none → H c = some (.lst vs) → DqAll K F vs ds → c ∉ l → GdAll K F H xs gs l → GdAll K F H ((k, b, c) :: xs) ((d, ds) :: gs) (c :: l)
theorem GdAll.frame {K : PySem.W.Frag} {F F' H H' : Hp} (e : Same F F') : ∀ {xs : List (NestedKey × Addr × Addr)} {gs : List (D × List D)} {l : List Addr}, GdAll K F H xs gs l → (∀ a ∈ l, ∀ o, H a = some o → NT o → H' a = some o) → (∀ a ∈ l, F' a = none) → GdAll K F' H' xs gs l
  | _, _, _, .nil, _, _ => .nil
  | _, _, _, .cons h1 h0 h2 h3 h4 h5 h6 h7, q, z => .cons h1 h0 (Dq_mono e _ _ h2) (z _ (by simp)) (q _ (by simp) _ h4 (fun _ z => by cases z)) (DqAll_mono e _ _ h5) h6 (GdAll.frame e h7 (fun a ha => q a (by simp [ha])) (fun a ha => z a (by simp [ha])))
theorem GdAll.free {K : PySem.W.Frag} {F H : Hp} : ∀ {xs : List (NestedKey × Addr × Addr)} {gs : List (D × List D)} {l : List Addr}, GdAll K F H xs gs l → ∀ a ∈ l, F a = none ∧ ∃ o, H a = some o ∧ NO o
  | _, _, _, .nil, a, m => by cases m
  | _, _, _, .cons h1 h0 h2 h3 h4 h5 h6 h7, a, m => by
    rcases List.mem_cons.mp m with r | r
    · subst r; exact ⟨h3, _, h4, NO.lst⟩
    · exact GdAll.free h7 a r
theorem dom_of {H H' : Hp} (e : Same H H') : ∀ a, H' a = none → H a = none := fun a n => by
  cases q : H a with
  | none => rfl
  | some o => rw [e a o q] at n; cases n
theorem dom_upd {H : Hp} {b : Addr} {o : HO} : ∀ a, upd H b o a = none → H a = none := fun a n => by
  by_cases q : a = b
  · subst q; rw [upd_same] at n; cases n
  · rw [upd_ne q] at n; exact n

/-! ### own things -/
mutual
/-- v is c; l: the addresses of what is our own -/
inductive Own (K : PySem.W.Frag) (mg : Str → Option Value) (F H : Hp) : V → Cell → List Addr → Prop
  | fz {v : V} {d : D} : Dq K F v d → Own K mg F H v (.fz d) []
  | ow {a : Addr} {vs : List V} {ds : List D} : F a = none → H a = some (.lst vs) → DqAll K F vs ds → Own K mg F H (.ref a) (.ow ds) [a]
  | gd {a : Addr} {xs : List (NestedKey × Addr × Addr)} {gs : List (D × List D)} {l : List Addr} : F a = none → H a = some (.ext (GdO a xs)) → (a == sysModules) = false → (xs.map (·.1)).Nodup → GdAll K F H xs gs l → a ∉ l → Own K mg F H (.ref a) (.gd gs) (a :: l)
  | od {a : Addr} {kvs : List (Key × V)} {kds : List (Key × D)} : F a = none → H a = some (.dK kvs) → KvP K F kvs kds → Own K mg F H (.ref a) (.od kds) [a]
  | tt {a : Addr} {ob : Obj} {vs : List V} {cs : List Cell} {l : List Addr} : F a = none → H a = some (.frz ob (.tup vs)) → ob.dict = none → OwnAll K mg F H vs cs l → a ∉ l → Own K mg F H (.ref a) (.tt cs) (a :: l)
  | tl {a : Addr} {vs : List V} {cs : List Cell} {l : List Addr} : F a = none → H a = some (.lst vs) → OwnAll K mg F H vs cs l → a ∉ l → Own K mg F H (.ref a) (.tl cs) (a :: l)
  | ob {a dx C : Addr} {n : Str} {fs : List (Str × V)} {cs : List (Str × Cell)} {l : List Addr} : mg n = some (.ref C) → F a = none → F dx = none → H a = some (.ins C dx fs) → H dx = some (.own a) → fs.map (·.1) = cs.map (·.1) →
      OwnAll K mg F H (fs.map (·.2)) (cs.map (·.2)) l → a ∉ l → dx ∉ l → a ≠ dx → Own K mg F H (.ref a) (.ob n cs) (a :: dx :: l)
inductive OwnAll (K : PySem.W.Frag) (mg : Str → Option Value) (F H : Hp) : List V → List Cell → List Addr → Prop
  | nil : OwnAll K mg F H [] [] []
  | cons {v : V} {c : Cell} {l l' : List Addr} {vs : List V} {cs : List Cell} : Own K mg F H v c l → OwnAll K mg F H vs cs l' → (∀ a, a ∈ l → a ∉ l') → OwnAll K mg F H (v :: vs) (c :: cs) (l ++ l')
end
section
variable {K : PySem.W.Frag} {mg : Str → Option Value} {F F' H H' : Hp}
mutual
theorem Own.frame (e : Same F F') : ∀ {v : V} {c : Cell} {l : List Addr}, Own K mg F H v c l → (∀ a ∈ l, ∀ o, H a = some o → NT o → H' a = some o) → (∀ a ∈ l, F' a = none) → Own K mg F' H' v c l
  | _, _, _, .fz h, _, _ => .fz (Dq_mono e _ _ h)
  | _, _, _, .ow h1 h2 h3, q, z => .ow (z _ (by simp)) (q _ (by simp) _ h2 (fun _ z => by cases z)) (DqAll_mono e _ _ h3)
  | _, _, _, .od h1 h2 h3, q, z => .od (z _ (by simp)) (q _ (by simp) _ h2 (fun _ z => by cases z)) (h3.mono e)
  | _, _, _, .gd h1 h2 h3 h4 h5 h6, q, z => .gd (z _ (by simp)) (q _ (by simp) _ h2 (fun _ z => by cases z)) h3 h4 (h5.frame e (fun a ha => q a (by simp [ha])) (fun a ha => z a (by simp [ha]))) h6
  | _, _, _, .tt h1 h2 hd h3 h4, q, z => .tt (z _ (by simp)) (q _ (by simp) _ h2 (fun _ z => by cases z)) hd (OwnAll.frame e h3 (fun a ha => q a (by simp [ha])) (fun a ha => z a (by simp [ha]))) h4
  | _, _, _, .tl h1 h2 h3 h4, q, z => .tl (z _ (by simp)) (q _ (by simp) _ h2 (fun _ z => by cases z)) (OwnAll.frame e h3 (fun a ha => q a (by simp [ha])) (fun a ha => z a (by simp [ha]))) h4
  | _, _, _, .ob h0 h1 h1' h2 h2' hn h3 h4 h5 h6, q, z => .ob h0 (z _ (by simp)) (z _ (by simp)) (q _ (by simp) _ h2 (fun _ z => by cases z)) (q _ (by simp) _ h2' (fun _ z => by cases z)) hn
      (OwnAll.frame e h3 (fun a ha => q a (by simp [ha])) (fun a ha => z a (by simp [ha]))) h4 h5 h6
theorem OwnAll.frame (e : Same F F') : ∀ {vs : List V} {cs : List Cell} {l : List Addr}, OwnAll K mg F H vs cs l → (∀ a ∈ l, ∀ o, H a = some o → NT o → H' a = some o) → (∀ a ∈ l, F' a = none) → OwnAll K mg F' H' vs cs l
  | _, _, _, .nil, _, _ => .nil
  | _, _, _, .cons h1 h2 h3, q, z => .cons (Own.frame e h1 (fun a ha => q a (by simp [ha])) (fun a ha => z a (by simp [ha]))) (OwnAll.frame e h2 (fun a ha => q a (by simp [ha])) (fun a ha => z a (by simp [ha]))) h3
end
mutual
theorem Own.free : ∀ {v : V} {c : Cell} {l : List Addr}, Own K mg F H v c l → ∀ a ∈ l, F a = none ∧ ∃ o, H a = some o ∧ NO o
  | _, _, _, .fz h, a, m => by cases m
  | _, _, _, .ow h1 h2 h3, a, m => by simp at m; subst m; exact ⟨h1, _, h2, ⟨(fun _ z => by cases z), (fun _ _ z => by unfold CodeO at z; cases z)⟩⟩
  | _, _, _, .od h1 h2 h3, a, m => by simp at m; subst m; exact ⟨h1, _, h2, ⟨(fun _ z => by cases z), (fun _ _ z => by unfold CodeO at z; cases z)⟩⟩
  | _, _, _, .gd h1 h2 h3 h4 h5 h6, a, m => by
    rcases List.mem_cons.mp m with r | r
    · subst r; exact ⟨h1, _, h2, gdO_no _ _⟩
    · exact h5.free a r
  | _, _, _, .tt h1 h2 hd h3 h4, a, m => by
    rcases List.mem_cons.mp m with r | r
    · subst r; exact ⟨h1, _, h2, ⟨(fun _ z => by cases z), (fun _ _ z => by unfold CodeO at z; cases z)⟩⟩
    · exact OwnAll.free h3 a r
  | _, _, _, .tl h1 h2 h3 h4, a, m => by
    rcases List.mem_cons.mp m with r | r
    · subst r; exact ⟨h1, _, h2, ⟨(fun _ z => by cases z), (fun _ _ z => by unfold CodeO at z; cases z)⟩⟩
    · exact OwnAll.free h3 a r
  | _, _, _, .ob h0 h1 h1' h2 h2' hn h3 h4 h5 h6, a, m => by
    rcases List.mem_cons.mp m with r | m
    · subst r; exact ⟨h1, _, h2, ⟨(fun _ z => by cases z), (fun _ _ z => by unfold CodeO at z; cases z)⟩⟩
    · rcases List.mem_cons.mp m with r | r
      · subst r; exact ⟨h1', _, h2', ⟨(fun _ z => by cases z), (fun _ _ z => by unfold CodeO at z; cases z)⟩⟩
      · exact OwnAll.free h3 a r
theorem OwnAll.free : ∀ {vs : List V} {cs : List Cell} {l : List Addr}, OwnAll K mg F H vs cs l → ∀ a ∈ l, F a = none ∧ ∃ o, H a = some o ∧ NO o
  | _, _, _, .nil, a, m => by cases m
  | _, _, _, .cons h1 h2 h3, a, m => by
    rcases List.mem_append.mp m with r | r
    · exact Own.free h1 a r
    · exact OwnAll.free h2 a r
end
/-- frozen: the things at l are known from now on -/
def frzAt (F H : Hp) (l : List Addr) : Hp := fun a => if a ∈ l then H a else F a
theorem frzAt_in {a : Addr} {l : List Addr} (h : a ∈ l) : frzAt F H l a = H a := by unfold frzAt; rw [if_pos h]
theorem frzAt_out {a : Addr} {l : List Addr} (h : a ∉ l) : frzAt F H l a = F a := by unfold frzAt; rw [if_neg h]
theorem frzAt_same {l : List Addr} (h : ∀ a ∈ l, F a = none) : Same F (frzAt F H l) := fun a o e => by
  rw [frzAt_out (fun m => by rw [h a m] at e; cases e)]; exact e
theorem frzAt_le {l : List Addr} (s : Same F H) : Same (frzAt F H l) H := fun a o e => by
  by_cases m : a ∈ l
  · rw [frzAt_in m] at e; exact e
  · rw [frzAt_out m] at e; exact s _ _ e
theorem ntf_frz {l : List Addr} (n : ∀ a o, F a = some o → NT o) (h : ∀ a ∈ l, ∃ o, H a = some o ∧ NO o) : ∀ a o, frzAt F H l a = some o → NT o := fun a o e => by
  by_cases m : a ∈ l
  · rw [frzAt_in m] at e
    obtain ⟨o', e', q⟩ := h a m
    rw [e] at e'; cases e'; exact q.1
  · rw [frzAt_out m] at e; exact n a o e
theorem ntf_upd {p : Addr} {o : HO} (n : ∀ a o, F a = some o → NT o) (no : NT o) : ∀ a u, L2.upd F p o a = some u → NT u := fun a u e => by
  by_cases q : a = p
  · subst q; rw [upd_same] at e; cases e; exact no
  · rw [upd_ne q] at e; exact n a u e
mutual
/-- the data of a cell -/
def Cell.data : Cell → Option D
  | .fz d => some d
  | .ow ds => some (.list ds)
  | .tt cs => (Cell.dataAll cs).map .tuple
  | .tl cs => (Cell.dataAll cs).map .list
  | _ => none
def Cell.dataAll : List Cell → Option (List D)
  | [] => some []
  | c :: cs => match Cell.data c, Cell.dataAll cs with
    | some d, some ds => some (d :: ds)
    | _, _ => none
end
mutual
/-- .. in any heap that has what is frozen and, at l, what is our own -/
theorem Own.dp {G : Hp} (e : Same F G) : ∀ {v : V} {c : Cell} {l : List Addr} {d : D}, Own K mg F H v c l → c.data = some d → (∀ a ∈ l, ∀ o, H a = some o → NT o → G a = some o) → Dq K G v d
  | _, _, _, d, .fz h, q, _ => by
    simp only [Cell.data, Option.some.injEq] at q
    subst q; exact Dq_mono e _ _ h
  | _, _, _, d, .ow h1 h2 h3, q, z => by
    simp only [Cell.data, Option.some.injEq] at q
    subst q; exact .lst (.inl (Rd.of (z _ (by simp) _ h2 (fun _ z => by cases z)))) (DqAll_mono e _ _ h3)
  | _, _, _, d, .od h1 h2 h3, q, z => by simp [Cell.data] at q
  | _, _, _, d, .gd h1 h2 h3 h4 h5 h6, q, z => by simp [Cell.data] at q
  | _, _, _, d, .tt (cs := cs) h1 h2 hd h3 h4, q, z => by
    cases e2 : Cell.dataAll cs with
    | none => rw [Cell.data, e2] at q; cases q
    | some ds =>
      rw [Cell.data, e2] at q
      have q' : PyData.tuple ds = d := by simpa using q
      subst q'; exact .tup (.inl ⟨_, z _ (by simp) _ h2 (fun _ z => by cases z), hd⟩) (OwnAll.dp e h3 e2 (fun a m => z a (by simp [m])))
  | _, _, _, d, .tl (cs := cs) h1 h2 h3 h4, q, z => by
    cases e2 : Cell.dataAll cs with
    | none => rw [Cell.data, e2] at q; cases q
    | some ds =>
      rw [Cell.data, e2] at q
      have q' : PyData.list ds = d := by simpa using q
      subst q'; exact .lst (.inl (Rd.of (z _ (by simp) _ h2 (fun _ z => by cases z)))) (OwnAll.dp e h3 e2 (fun a m => z a (by simp [m])))
  | _, _, _, d, .ob h0 h1 h1' h2 h2' hn h3 h4 h5 h6, q, z => by simp [Cell.data] at q
theorem OwnAll.dp {G : Hp} (e : Same F G) : ∀ {vs : List V} {cs : List Cell} {l : List Addr} {ds : List D}, OwnAll K mg F H vs cs l → Cell.dataAll cs = some ds → (∀ a ∈ l, ∀ o, H a = some o → NT o → G a = some o) → DqAll K G vs ds
  | _, _, _, ds, .nil, q, _ => by
    simp only [Cell.dataAll, Option.some.injEq] at q
    subst q; exact .nil
  | _, _, _, ds, .cons (c := c) (cs := cs) h1 h2 h3, q, z => by
    rw [Cell.dataAll] at q
    cases e1 : Cell.data c with
    | none => rw [e1] at q; cases q
    | some d =>
      cases e2 : Cell.dataAll cs with
      | none => rw [e1, e2] at q; cases q
      | some ds' =>
        rw [e1, e2] at q
        have q' : d :: ds' = ds := by simpa using q
        subst q'; exact .cons (Own.dp e h1 e1 (fun a m => z a (by simp [m]))) (OwnAll.dp e h2 e2 (fun a m => z a (by simp [m])))
end
end

/-! ### footprints by slot -/
abbrev FP := Nat → List Addr
def U (fp : FP) (a : Addr) : Prop := ∃ i, a ∈ fp i
def fpNil : FP := fun _ => []
def fpSet (fp : FP) (i : Nat) (l : List Addr) : FP := fun j => if j = i then l else fp j
theorem fpSet_same {fp : FP} {i : Nat} {l : List Addr} : fpSet fp i l i = l := if_pos rfl
theorem fpSet_ne {fp : FP} {i j : Nat} {l : List Addr} (h : j ≠ i) : fpSet fp i l j = fp j := if_neg h
theorem U_fpSet {fp : FP} {i : Nat} {l : List Addr} {a : Addr} (h : U (fpSet fp i l) a) : a ∈ l ∨ ∃ j, j ≠ i ∧ a ∈ fp j := by
  obtain ⟨j, hj⟩ := h
  by_cases e : j = i
  · subst e; rw [fpSet_same] at hj; exact .inl hj
  · rw [fpSet_ne e] at hj; exact .inr ⟨j, e, hj⟩

structure LOk (K : PySem.W.Frag) (mg : Str → Option Value) (F H : Hp) (σ : St) (env : LE) (fp : FP) : Prop where
  same : Same F H
  slot : ∀ i c, env[i]? = some (some c) → ∃ v, σ[i]? = some (some v) ∧ Own K mg F H v c (fp i)
  emp : ∀ i, (∀ c, env[i]? ≠ some (some c)) → fp i = []
  dis : ∀ i j a, i ≠ j → a ∈ fp i → a ∉ fp j
  len : σ.length = env.length
  tab : TabOk K mg H
  ntf : ∀ a o, F a = some o → NT o

section
variable {K : PySem.W.Frag} {mg : Str → Option Value} {F F' F1 F2 H H' H1 H2 : Hp} {σ : St} {env : LE} {fp fp' fp1 fp2 : FP}
theorem LOk.free (L : LOk K mg F H σ env fp) {a : Addr} (u : U fp a) : F a = none ∧ ∃ o, H a = some o ∧ NO o := by
  obtain ⟨i, hi⟩ := u
  by_cases q : ∃ c, env[i]? = some (some c)
  · obtain ⟨c, q⟩ := q
    obtain ⟨v, _, o⟩ := L.slot i c q
    exact o.free a hi
  · have z := L.emp i (fun c e => q ⟨c, e⟩)
    rw [z] at hi; cases hi
theorem LOk.ext (L : LOk K mg F H σ env fp) (e : Same F F') (e2 : Same F' H') (h : ∀ a o, U fp a → H a = some o → NT o → H' a = some o) (n : ∀ a, U fp a → F' a = none) (t : TabOk K mg H') (nf : ∀ a o, F' a = some o → NT o) : LOk K mg F' H' σ env fp :=
  ⟨e2, fun i c q => let ⟨v, h1, o⟩ := L.slot i c q; ⟨v, h1, o.frame e (fun a m o q nt => h a o ⟨i, m⟩ q nt) (fun a m => n a ⟨i, m⟩)⟩, L.emp, L.dis, L.len, t, nf⟩
theorem lt_of_get {α : Type} {l : List α} {i : Nat} {x : α} (h : l[i]? = some x) : i < l.length := (List.getElem?_eq_some_iff.mp h).1
/-- a slot is stored -/
theorem LOk.set (L : LOk K mg F H σ env fp) {i : Nat} {v : V} {c : Cell} {l : List Addr} (hi : i < env.length) (o : Own K mg F H v c l) (d : ∀ a ∈ l, ∀ j, j ≠ i → a ∉ fp j) :
    LOk K mg F H (σ.set i (some v)) (env.set i (some c)) (fpSet fp i l) := by
  refine ⟨L.same, fun j c' q => ?_, fun j q => ?_, fun j k a hjk hj hk => ?_, by rw [List.length_set, List.length_set]; exact L.len, L.tab, L.ntf⟩
  · by_cases e : j = i
    · subst e
      rw [List.getElem?_set_self hi] at q
      cases q
      rw [fpSet_same]
      exact ⟨v, by rw [List.getElem?_set_self (by rw [L.len]; exact hi)], o⟩
    · rw [List.getElem?_set_ne (Ne.symm e)] at q
      rw [fpSet_ne e, List.getElem?_set_ne (Ne.symm e)]
      exact L.slot j c' q
  · by_cases e : j = i
    · subst e
      exact absurd (List.getElem?_set_self hi) (q c)
    · rw [fpSet_ne e]
      exact L.emp j fun c' => by have := q c'; rwa [List.getElem?_set_ne (Ne.symm e)] at this
  · by_cases e : j = i
    · subst e
      rw [fpSet_same] at hj
      rw [fpSet_ne (Ne.symm hjk)] at hk
      exact d a hj k (Ne.symm hjk) hk
    · rw [fpSet_ne e] at hj
      by_cases e2 : k = i
      · subst e2
        rw [fpSet_same] at hk
        exact d a hk j e hj
      · rw [fpSet_ne e2] at hk
        exact L.dis j k a hjk hj hk

/-- from a state to a later one. p: nothing that stood has changed; else but what is our own -/
structure Mv (p : Bool) (F H : Hp) (fp : FP) (F' H' : Hp) (fp' : FP) : Prop where
  f : Same F F'
  h : ∀ a o, H a = some o → NT o → (p = false → ¬ U fp a) → H' a = some o
  n : ∀ a o, F' a = some o → F a = some o ∨ H a = none ∨ U fp a
  u : ∀ a, U fp' a → U fp a ∨ H a = none
  d : ∀ a, H' a = none → H a = none
theorem Mv.refl (p : Bool) (F H : Hp) (fp : FP) : Mv p F H fp F H fp := ⟨Same.refl _, fun _ _ e _ _ => e, fun _ _ e => .inl e, fun _ u => .inl u, fun _ e => e⟩
theorem Mv.trans {p : Bool} (a : Mv p F H fp F1 H1 fp1) (b : Mv p F1 H1 fp1 F2 H2 fp2) : Mv p F H fp F2 H2 fp2 := by
  refine ⟨a.f.trans b.f, fun c o e nt q => b.h c o (a.h c o e nt q) nt fun hp u => ?_, fun c o e => ?_, fun c u => ?_, fun c e => a.d c (b.d c e)⟩
  · rcases a.u c u with u | z
    · exact q hp u
    · rw [e] at z; cases z
  · rcases b.n c o e with e | e | u
    · exact a.n c o e
    · exact .inr (.inl (a.d c e))
    · rcases a.u c u with u | z
      · exact .inr (.inr u)
      · exact .inr (.inl z)
  · rcases b.u c u with u | z
    · exact a.u c u
    · exact .inr (a.d c z)
theorem Mv.weak {p : Bool} (a : Mv true F H fp F1 H1 fp1) : Mv p F H fp F1 H1 fp1 := ⟨a.f, fun c o e nt _ => a.h c o e nt (fun z => by cases z), a.n, a.u, a.d⟩
theorem Mv.le {p q : Bool} (h : q = true → p = true) (a : Mv p F H fp F1 H1 fp1) : Mv q F H fp F1 H1 fp1 := by
  cases p with
  | true => exact a.weak
  | false =>
    cases q with
    | false => exact a
    | true => cases h rfl
/-- a thing of our own that is in no slot stands -/
theorem Mv.own {p : Bool} (m : Mv p F H fp F1 H1 fp1) {v : V} {c : Cell} {l : List Addr} (o : Own K mg F H v c l) (d : ∀ a ∈ l, ¬ U fp a) : Own K mg F1 H1 v c l ∧ ∀ a ∈ l, ¬ U fp1 a := by
  refine ⟨o.frame m.f (fun a ha ob e nt => m.h a ob e nt fun _ => d a ha) (fun a ha => ?_), fun a ha u => ?_⟩
  · obtain ⟨z1, ob, z2, _⟩ := o.free a ha
    cases q : F1 a with
    | none => rfl
    | some o' =>
      rcases m.n a o' q with e | e | u
      · rw [z1] at e; cases e
      · rw [z2] at e; cases e
      · exact absurd u (d a ha)
  · obtain ⟨z1, ob, z2, _⟩ := o.free a ha
    rcases m.u a u with u | e
    · exact d a ha u
    · rw [z2] at e; cases e
theorem Mv.ownAll {p : Bool} (m : Mv p F H fp F1 H1 fp1) {v : List V} {c : List Cell} {l : List Addr} (o : OwnAll K mg F H v c l) (d : ∀ a ∈ l, ¬ U fp a) : OwnAll K mg F1 H1 v c l ∧ ∀ a ∈ l, ¬ U fp1 a := by
  refine ⟨o.frame m.f (fun a ha ob e nt => m.h a ob e nt fun _ => d a ha) (fun a ha => ?_), fun a ha u => ?_⟩
  · obtain ⟨z1, ob, z2, _⟩ := o.free a ha
    cases q : F1 a with
    | none => rfl
    | some o' =>
      rcases m.n a o' q with e | e | u
      · rw [z1] at e; cases e
      · rw [z2] at e; cases e
      · exact absurd u (d a ha)
  · obtain ⟨z1, ob, z2, _⟩ := o.free a ha
    rcases m.u a u with u | e
    · exact d a ha u
    · rw [z2] at e; cases e
/-- a slot's things are frozen -/
theorem LOk.freeze (L : LOk K mg F H σ env fp) {i : Nat} {v : V} {c : Cell} {d : D} (hc : env[i]? = some (some c)) (hv : σ[i]? = some (some v)) (hd : c.data = some d) :
    ∃ F', Dq K F' v d ∧ LOk K mg F' H σ (env.set i (some (.fz d))) (fpSet fp i []) ∧ Mv true F H fp F' H (fpSet fp i []) := by
  obtain ⟨v', hv', o⟩ := L.slot i c hc
  rw [hv] at hv'; cases hv'
  have e1 : Same F (frzAt F H (fp i)) := frzAt_same fun a m => (o.free a m).1
  have e2 : Same (frzAt F H (fp i)) H := frzAt_le L.same
  have dp : Dq K (frzAt F H (fp i)) v d := o.dp e1 hd fun a m ob e _ => by rw [frzAt_in m]; exact e
  have hi : i < env.length := lt_of_get hc
  refine ⟨_, dp, ⟨e2, fun j c' q => ?_, fun j q => ?_, fun j k a hjk hj hk => ?_, by rw [List.length_set]; exact L.len, L.tab, ntf_frz L.ntf fun a m => (o.free a m).2⟩, ⟨e1, fun _ _ e _ _ => e, fun a o' e => ?_, fun a u => ?_, fun _ e => e⟩⟩
  · by_cases e : j = i
    · subst e
      rw [List.getElem?_set_self hi] at q
      cases q
      rw [fpSet_same]
      exact ⟨v, hv, .fz dp⟩
    · rw [List.getElem?_set_ne (Ne.symm e)] at q
      obtain ⟨w, hw, ow⟩ := L.slot j c' q
      rw [fpSet_ne e]
      exact ⟨w, hw, ow.frame e1 (fun _ _ _ z _ => z) fun a m => by rw [frzAt_out (L.dis j i a e m)]; exact (ow.free a m).1⟩
  · by_cases e : j = i
    · subst e; rw [fpSet_same]
    · rw [fpSet_ne e]
      exact L.emp j fun c' => by have := q c'; rwa [List.getElem?_set_ne (Ne.symm e)] at this
  · by_cases e : j = i
    · subst e; rw [fpSet_same] at hj; cases hj
    · rw [fpSet_ne e] at hj
      by_cases e2 : k = i
      · subst e2; rw [fpSet_same] at hk; cases hk
      · rw [fpSet_ne e2] at hk; exact L.dis j k a hjk hj hk
  · by_cases m : a ∈ fp i
    · exact .inr (.inr ⟨i, m⟩)
    · rw [frzAt_out m] at e; exact .inl e
  · rcases U_fpSet u with z | ⟨j, _, z⟩
    · cases z
    · exact .inl ⟨j, z⟩
/-- a new thing, frozen at once -/
theorem LOk.newF (L : LOk K mg F H σ env fp) {p : Addr} {o : HO} (hp : H p = none) (no : NT o) : LOk K mg (upd F p o) (upd H p o) σ env fp ∧ Mv true F H fp (upd F p o) (upd H p o) fp := by
  have fpn : F p = none := by
    cases q : F p with
    | none => rfl
    | some o' => have z := L.same _ _ q; rw [hp] at z; cases z
  have e1 : Same F (upd F p o) := fun b x e => by rw [upd_ne (ne_of_none e fpn)]; exact e
  have e2 : Same H (upd H p o) := fun b x e => by rw [upd_ne (ne_of_none e hp)]; exact e
  have nu : ∀ a, U fp a → a ≠ p := fun a u e => by
    obtain ⟨_, ob, z, _⟩ := L.free u
    rw [e, hp] at z; cases z
  refine ⟨L.ext e1 (fun b x e => ?_) (fun a ob u e _ => e2 _ _ e) (fun a u => by rw [upd_ne (nu a u)]; exact (L.free u).1) (L.tab.step (.same e2)) (ntf_upd L.ntf no), ⟨e1, fun a ob e _ _ => e2 _ _ e, fun a ob e => ?_, fun _ u => .inl u, dom_of e2⟩⟩
  · by_cases q : b = p
    · subst q; rw [upd_same] at e ⊢; exact e
    · rw [upd_ne q] at e ⊢; exact L.same _ _ e
  · by_cases q : a = p
    · subst q; exact .inr (.inl hp)
    · rw [upd_ne q] at e; exact .inl e
/-- a new thing of our own -/
theorem LOk.newO (L : LOk K mg F H σ env fp) {p : Addr} {o : HO} (hp : H p = none) : LOk K mg F (upd H p o) σ env fp ∧ Mv true F H fp F (upd H p o) fp ∧ F p = none ∧ ¬ U fp p := by
  have fpn : F p = none := by
    cases q : F p with
    | none => rfl
    | some o' => have z := L.same _ _ q; rw [hp] at z; cases z
  have e2 : Same H (upd H p o) := fun b x e => by rw [upd_ne (ne_of_none e hp)]; exact e
  refine ⟨L.ext (Same.refl _) (fun b x e => e2 _ _ (L.same _ _ e)) (fun a ob u e _ => e2 _ _ e) (fun a u => (L.free u).1) (L.tab.step (.same e2)) L.ntf, ⟨Same.refl _, fun a ob e _ _ => e2 _ _ e, fun a ob e => .inl e, fun _ u => .inl u, dom_of e2⟩, fpn, fun u => ?_⟩
  obtain ⟨_, ob, z, _⟩ := L.free u
  rw [hp] at z; cases z
/-- a thing of our own at slot i is changed -/
theorem LOk.mut (L : LOk K mg F H σ env fp) {i : Nat} {a : Addr} {o : HO} {c c' : Cell} {v : V} {l' : List Addr} (hc : env[i]? = some (some c)) (hv : σ[i]? = some (some v)) (ha : a ∈ fp i)
    (ow : Own K mg F (upd H a o) v c' l') (hl : ∀ b ∈ l', b ∈ fp i) : LOk K mg F (upd H a o) σ (env.set i (some c')) (fpSet fp i l') ∧ Mv false F H fp F (upd H a o) (fpSet fp i l') := by
  have hi : i < env.length := lt_of_get hc
  have fa := L.free ⟨i, ha⟩
  have same' : Same F (upd H a o) := fun b x e => by
    rw [upd_ne (fun q => by rw [q, fa.1] at e; cases e)]; exact L.same _ _ e
  refine ⟨⟨same', fun j c'' q => ?_, fun j q => ?_, fun j k b hjk hj hk => ?_, by rw [List.length_set]; exact L.len, L.tab.step (.upd (.inr fa.2)), L.ntf⟩, ⟨Same.refl _, fun b ob e _ q => ?_, fun _ _ e => .inl e, fun b u => ?_, dom_upd⟩⟩
  · by_cases e : j = i
    · subst e
      rw [List.getElem?_set_self hi] at q
      cases q
      rw [fpSet_same]
      exact ⟨v, hv, ow⟩
    · rw [List.getElem?_set_ne (Ne.symm e)] at q
      obtain ⟨w, hw, ow'⟩ := L.slot j c'' q
      rw [fpSet_ne e]
      exact ⟨w, hw, ow'.frame (Same.refl _) (fun b m ob z _ => by rw [upd_ne (fun q => by rw [q] at m; exact L.dis j i a e m ha)]; exact z) fun b m => (ow'.free b m).1⟩
  · by_cases e : j = i
    · subst e
      exact absurd (List.getElem?_set_self hi) (q c')
    · rw [fpSet_ne e]
      exact L.emp j fun c'' => by have := q c''; rwa [List.getElem?_set_ne (Ne.symm e)] at this
  · by_cases e : j = i
    · subst e
      rw [fpSet_same] at hj
      rw [fpSet_ne (Ne.symm hjk)] at hk
      exact L.dis j k b hjk (hl b hj) hk
    · rw [fpSet_ne e] at hj
      by_cases e2 : k = i
      · subst e2
        rw [fpSet_same] at hk
        exact L.dis k j b (Ne.symm hjk) (hl b hk) hj
      · rw [fpSet_ne e2] at hk
        exact L.dis j k b hjk hj hk
  · rw [upd_ne (fun z => by rw [z] at q; exact q rfl ⟨i, ha⟩)]; exact e
  · rcases U_fpSet u with z | ⟨j, _, z⟩
    · exact .inl ⟨i, hl b z⟩
    · exact .inl ⟨j, z⟩
end
end DL

set_option Elab.async false
set_option linter.all false
set_option maxRecDepth 100000
set_option maxHeartbeats 4000000
/-! DL, part b: what an expression, a statement does, as plain functions; the judgements. -/
namespace DL
open PySem PySem.Spec L2

abbrev M (α : Type) := LE → Re α
def bnd {α β : Type} (f : M α) (g : α → M β) : M β := fun e => match f e with
  | .ok a e' => g a e'
  | .ex c e' => .ex c e'
  | .no => .no
def ret {α : Type} (a : α) : M α := fun e => .ok a e
def lift {α : Type} (o : Option α) : M α := fun e => match o with
  | some a => .ok a e
  | none => .no
def stuck {α : Type} : M α := fun _ => .no

section
variable (X : Cx) (W : WX)
/-- what is wanted behind -/
def wpE {α : Type} (p : Bool) (F H : Hp) (σ : L2.St) (fp : FP) (r : Re α) (Z : α → LE → Hp → Hp → FP → Prop) : Prop := match r with
  | .ok a e => ∀ F' H' fp', Mv p F H fp F' H' fp' → LOk X.K X.mg F' H' σ e fp' → Z a e F' H' fp'
  | .ex c e => ∀ C F' H' fp', X.mg c = some (.ref C) → Mv false F H fp F' H' fp' → LOk X.K X.mg F' H' σ e fp' → W (.ref C) none σ H'
  | .no => False
/-- a value that may be looked at: frozen data, or a list of our own -/
inductive Pk (K : PySem.W.Frag) (F H : Hp) : V → D → Prop
  | dp {v : V} {d : D} : Dq K F v d → Pk K F H v d
  | ow {a : Addr} {vs : List V} {ds : List D} : H a = some (.lst vs) → DqAll K F vs ds → Pk K F H (.ref a) (.list ds)
/-- a new thing of our own -/
def NewC (F H : Hp) (fp : FP) (F' H' : Hp) (fp' : FP) (v : V) (c : Cell) : Prop := ∃ l, Own X.K X.mg F' H' v c l ∧ (∀ a ∈ l, ¬ U fp' a) ∧ ∀ a ∈ l, U fp a ∨ H a = none
def EC (p : Bool) (e : Expr) (f : M Cell) : Prop := ∃ t, PE X e t ∧ ∀ (F H : Hp) (σ : L2.St) (env : LE) (fp : FP) (Q : VK), LOk X.K X.mg F H σ env fp →
  wpE X W p F H σ fp (f env) (fun c _ F' H' fp' => ∀ v, NewC X F H fp F' H' fp' v c → Q v H') → t σ H Q
def ES (p : Bool) (e : Expr) (f : M D) : Prop := ∃ t, PE X e t ∧ ∀ (F H : Hp) (σ : L2.St) (env : LE) (fp : FP) (Q : VK), LOk X.K X.mg F H σ env fp →
  wpE X W p F H σ fp (f env) (fun d _ F' H' _ => ∀ v, Dq X.K F' v d → Q v H') → t σ H Q
def EP (p : Bool) (e : Expr) (f : M D) : Prop := ∃ t, PE X e t ∧ ∀ (F H : Hp) (σ : L2.St) (env : LE) (fp : FP) (Q : VK), LOk X.K X.mg F H σ env fp →
  wpE X W p F H σ fp (f env) (fun d _ F' H' _ => ∀ v, Pk X.K F' H' v d → Q v H') → t σ H Q
def ET (p : Bool) (e : Expr) (f : M Bool) : Prop := ∃ t, PT X e t ∧ ∀ (F H : Hp) (σ : L2.St) (env : LE) (fp : FP) (Q : Bool → Hp → Prop), LOk X.K X.mg F H σ env fp →
  wpE X W p F H σ fp (f env) (fun b _ _ H' _ => Q b H') → t σ H Q
/-- a test within and, or -/
def EW (p : Bool) (e : Expr) (f : M Bool) : Prop := ∃ t, PW X e t ∧ ∀ (F H : Hp) (σ : L2.St) (env : LE) (fp : FP) (Q : Bool → Hp → Prop), LOk X.K X.mg F H σ env fp →
  wpE X W p F H σ fp (f env) (fun b _ _ H' _ => Q b H') → t σ H Q
/-- arguments, frozen; arguments that are looked at -/
def AC (p : Bool) (es : List Expr) (f : M (List D)) : Prop := ∃ t, PA X es t ∧ ∀ (F H : Hp) (σ : L2.St) (env : LE) (fp : FP) (Q : List V → Hp → Prop), LOk X.K X.mg F H σ env fp →
  wpE X W p F H σ fp (f env) (fun ds _ F' H' _ => ∀ vs, DqAll X.K F' vs ds → Q vs H') → t σ H Q
inductive PkAll (K : PySem.W.Frag) (F H : Hp) : List V → List D → Prop
  | nil : PkAll K F H [] []
  | cons {v : V} {d : D} {vs : List V} {ds : List D} : Pk K F H v d → PkAll K F H vs ds → PkAll K F H (v :: vs) (d :: ds)
def AP (p : Bool) (es : List Expr) (f : M (List D)) : Prop := ∃ t, PA X es t ∧ ∀ (F H : Hp) (σ : L2.St) (env : LE) (fp : FP) (Q : List V → Hp → Prop), LOk X.K X.mg F H σ env fp →
  wpE X W p F H σ fp (f env) (fun ds _ F' H' _ => ∀ vs, PkAll X.K F' H' vs ds → Q vs H') → t σ H Q
end

section
variable {X : Cx} {W : WX} {α β : Type} {p q : Bool} {F F' F1 H H' H1 : Hp} {σ : L2.St} {env : LE} {fp fp1 : FP} {K : PySem.W.Frag}
theorem wpE.imp {r : Re α} {Z Z' : α → LE → Hp → Hp → FP → Prop} (h : wpE X W p F H σ fp r Z) (i : ∀ a e F' H' fp', Mv p F H fp F' H' fp' → LOk X.K X.mg F' H' σ e fp' → Z a e F' H' fp' → Z' a e F' H' fp') : wpE X W p F H σ fp r Z' := by
  cases r with
  | ok a e => exact fun F' H' fp' m L => i _ _ _ _ _ m L (h F' H' fp' m L)
  | ex c e => exact h
  | no => exact h
theorem wpE.le {r : Re α} {Z : α → LE → Hp → Hp → FP → Prop} (hq : q = true → p = true) (h : wpE X W q F H σ fp r Z) : wpE X W p F H σ fp r Z := by
  cases r with
  | ok a e => exact fun F' H' fp' m L => h F' H' fp' (m.le hq) L
  | ex c e => exact h
  | no => exact h
theorem wpE.from {r : Re α} {Z : α → LE → Hp → Hp → FP → Prop} (m : Mv p F H fp F1 H1 fp1) (h : wpE X W p F H σ fp r Z) : wpE X W p F1 H1 σ fp1 r Z := by
  cases r with
  | ok a e => exact fun F' H' fp' m' L => h F' H' fp' (m.trans m') L
  | ex c e => exact fun C F' H' fp' hc m' L => h C F' H' fp' hc ((m.le (q := false) (fun z => by cases z)).trans m') L
  | no => exact h
theorem wpE.bnd {f : M α} {g : α → M β} {Z : β → LE → Hp → Hp → FP → Prop} (h : wpE X W p F H σ fp (bnd f g env) Z) :
    wpE X W p F H σ fp (f env) (fun a e F1 H1 fp1 => wpE X W p F1 H1 σ fp1 (g a e) Z) := by
  unfold DL.bnd at h
  cases e : f env with
  | ok a e' => rw [e] at h; exact fun F1 H1 fp1 m L => h.from m
  | ex c e' => rw [e] at h; exact h
  | no => rw [e] at h; exact h
theorem wpE.ret {a : α} {Z : α → LE → Hp → Hp → FP → Prop} (L : LOk X.K X.mg F H σ env fp) (h : wpE X W p F H σ fp (ret a env) Z) : Z a env F H fp := h F H fp (Mv.refl _ _ _ _) L
theorem wpE.lift {o : Option α} {Z : α → LE → Hp → Hp → FP → Prop} (h : wpE X W p F H σ fp (lift o env) Z) : ∃ a, o = some a ∧ wpE X W p F H σ fp (.ok a env) Z := by
  cases o with
  | some a => exact ⟨a, rfl, h⟩
  | none => exact h.elim
theorem Pk.mono {v : V} {d : D} (h : Pk K F H v d) (m : Mv true F H fp F1 H1 fp1) : Pk K F1 H1 v d := by
  cases h with
  | dp h => exact .dp (Dq_mono m.f _ _ h)
  | ow h1 h2 => exact .ow (m.h _ _ h1 (fun _ z => by cases z) (fun z => by cases z)) (DqAll_mono m.f _ _ h2)
theorem Pk.dqH {v : V} {d : D} (s : Same F H) (h : Pk K F H v d) : Dq K H v d := by
  cases h with
  | dp h => exact Dq_mono s _ _ h
  | ow h1 h2 => exact .lst (.inl (Rd.of h1)) (DqAll_mono s _ _ h2)
theorem PkAll.mono {v : List V} {d : List D} (h : PkAll K F H v d) (m : Mv true F H fp F1 H1 fp1) : PkAll K F1 H1 v d := by
  induction h with
  | nil => exact .nil
  | cons h1 _ ih => exact .cons (h1.mono m) ih
/-- a list that is looked at -/
theorem Pk.list {v : V} {ds : List D} (s : Same F H) (h : Pk K F H v (.list ds)) : ∃ a vs, v = .ref a ∧ SqL K H a vs ∧ DqAll K F vs ds := by
  cases h with
  | dp h =>
    cases h with
    | lst h1 h2 => exact ⟨_, _, rfl, SqL_mono s h1, h2⟩
  | ow h1 h2 => exact ⟨_, _, rfl, .inl (Rd.of h1), h2⟩
theorem Pk.tuple {v : V} {ds : List D} (s : Same F H) (h : Pk K F H v (.tuple ds)) : ∃ a vs, v = .ref a ∧ TupN K H a vs ∧ DqAll K F vs ds := by
  cases h with
  | dp h =>
    cases h with
    | tup h1 h2 => exact ⟨_, _, rfl, h1.mono s, h2⟩
theorem Pk.int {v : V} {i : Int} (h : Pk K F H v (.int i)) : v = .int i := by
  cases h with
  | dp h => cases h; rfl
theorem Pk.str {v : V} {i : Str} (h : Pk K F H v (.str i)) : v = .str i := by
  cases h with
  | dp h => cases h; rfl
theorem Pk.bool {v : V} {i : Bool} (h : Pk K F H v (.bool i)) : v = .bl i := by
  cases h with
  | dp h => cases h; rfl
theorem Pk.none {v : V} (h : Pk K F H v .none) : v = .non := by
  cases h with
  | dp h => cases h; rfl

/-! ### what is new -/
structure New (F H F' H' : Hp) : Prop where
  f : Same F F'
  h : ∀ a o, H a = some o → NT o → H' a = some o
  n : ∀ a o, F' a = some o → F a = some o ∨ H a = none
  s : Same F' H'
  d : ∀ a, H' a = none → H a = none
  nt : ∀ a o, F' a = some o → F a = some o ∨ NT o
theorem New.refl (s : Same F H) : New F H F H := ⟨Same.refl _, fun _ _ e _ => e, fun _ _ e => .inl e, s, fun _ e => e, fun _ _ e => .inl e⟩
theorem New.mv (n : New F H F' H') (nt : TabOk X.K X.mg H') (L : LOk X.K X.mg F H σ env fp) : LOk X.K X.mg F' H' σ env fp ∧ Mv true F H fp F' H' fp := by
  refine ⟨L.ext n.f n.s (fun a o _ e nt => n.h _ _ e nt) (fun a u => ?_) nt (fun a o e => (n.nt a o e).elim (L.ntf a o) id), ⟨n.f, fun a o e nt _ => n.h _ _ e nt, fun a o e => ?_, fun _ u => .inl u, n.d⟩⟩
  · cases q : F' a with
    | none => rfl
    | some o =>
      obtain ⟨z1, ob, z2, _⟩ := L.free u
      rcases n.n a o q with e | e
      · rw [z1] at e; cases e
      · rw [z2] at e; cases e
  · rcases n.n a o e with e | e
    · exact .inl e
    · exact .inr (.inl e)
theorem New.frozen {a : Addr} {o : HO} (s : Same F H) (hp : H a = none) (no : NT o) : New F H (upd F a o) (upd H a o) := by
  have fpn : F a = none := by
    cases q : F a with
    | none => rfl
    | some o' => have z := s _ _ q; rw [hp] at z; cases z
  refine ⟨fun b x e => by rw [upd_ne (ne_of_none e fpn)]; exact e, fun b x e _ => by rw [upd_ne (ne_of_none e hp)]; exact e, fun b x e => ?_, fun b x e => ?_, dom_upd, fun b x e => ?_⟩
  · by_cases q : b = a
    · subst q; exact .inr hp
    · rw [upd_ne q] at e; exact .inl e
  · by_cases q : b = a
    · subst q; rw [upd_same] at e ⊢; exact e
    · rw [upd_ne q] at e ⊢; exact s _ _ e
  · by_cases q : b = a
    · subst q; rw [upd_same] at e; cases e; exact .inr no
    · rw [upd_ne q] at e; exact .inl e
theorem New.owned {a : Addr} {o : HO} (s : Same F H) (hp : H a = none) : New F H F (upd H a o) ∧ F a = none := by
  have fpn : F a = none := by
    cases q : F a with
    | none => rfl
    | some o' => have z := s _ _ q; rw [hp] at z; cases z
  refine ⟨⟨Same.refl _, fun b x e _ => by rw [upd_ne (ne_of_none e hp)]; exact e, fun b x e => .inl e, fun b x e => ?_, dom_upd, fun _ _ e => .inl e⟩, fpn⟩
  rw [upd_ne (fun z => by rw [z, fpn] at e; cases e)]; exact s _ _ e
/-- the outcome of an operation: a cell that is new -/
def NewV (X : Cx) (F H : Hp) (c : Cell) (Q : VK) : Prop := ∀ v F' H' l, New F H F' H' → TabStep H H' → Own X.K X.mg F' H' v c l → (∀ a ∈ l, H a = none) → Q v H'
theorem NewV.fz {c : D} {Q : VK} (s : Same F H) {v : V} (h : NewV X F H (.fz c) Q) (d : Dq X.K F v c) : Q v H := h v F H [] (New.refl s) (.refl _) (.fz d) (fun _ z => by cases z)
theorem NewV.ow {ds : List D} {Q : VK} (s : Same F H) {vs : List V} (h : NewV X F H (.ow ds) Q) (d : DqAll X.K F vs ds) {a : Addr} (ha : H a = none) : Q (.ref a) (upd H a (.lst vs)) := by
  obtain ⟨n, z⟩ := New.owned (o := .lst vs) s ha
  exact h _ _ _ [a] n (.upd (.inl ha)) (.ow z upd_same d) (fun b m => by simp at m; subst m; exact ha)
theorem NewV.tup {ds : List D} {Q : VK} (s : Same F H) {vs : List V} (h : NewV X F H (.fz (.tuple ds)) Q) (d : DqAll X.K F vs ds) : NewT vs H Q := by
  intro a o ha hd
  have n := New.frozen (o := .frz o (.tup vs)) s ha (fun _ z => by cases z)
  exact h _ _ _ [] n (.upd (.inl ha)) (.fz (.tup (TupN.new hd) (DqAll_mono n.f _ _ d))) (fun b m => by cases m)
/-- behind an operation's outcome -/
theorem newW_of {c : Cell} {Q : VK} (L : LOk X.K X.mg F H σ env fp) (h : wpE X W p F H σ fp (.ok c env) (fun c _ F' H' fp' => ∀ v, NewC X F H fp F' H' fp' v c → Q v H')) :
    ∀ v F' H' l, New F H F' H' → TabOk X.K X.mg H' → Own X.K X.mg F' H' v c l → (∀ a ∈ l, H a = none) → Q v H' := by
  intro v F' H' l n ts o fresh
  obtain ⟨L', m⟩ := n.mv ts L
  refine h F' H' fp m.weak L' v ⟨l, o, fun a ha u => ?_, fun a ha => .inr (fresh a ha)⟩
  obtain ⟨_, ob, z, _⟩ := L.free u
  rw [fresh a ha] at z; cases z
theorem newV_of {c : Cell} {Q : VK} (L : LOk X.K X.mg F H σ env fp) (h : wpE X W p F H σ fp (.ok c env) (fun c _ F' H' fp' => ∀ v, NewC X F H fp F' H' fp' v c → Q v H')) : NewV X F H c Q :=
  fun v F' H' l n ts o fresh => newW_of L h v F' H' l n (L.tab.step ts) o fresh
theorem wpE.newC {r : Re Cell} {Q : VK} (m : Mv p F H fp F1 H1 fp1) (h : wpE X W p F1 H1 σ fp1 r (fun c _ F' H' fp' => ∀ v, NewC X F H fp F' H' fp' v c → Q v H')) :
    wpE X W p F1 H1 σ fp1 r (fun c _ F' H' fp' => ∀ v, NewC X F1 H1 fp1 F' H' fp' v c → Q v H') := by
  refine h.imp fun c e F' H' fp' m' L' z v ⟨l, o, d, nw⟩ => z v ⟨l, o, d, fun a ha => ?_⟩
  rcases nw a ha with u | e
  · exact m.u a u
  · by_cases u : U fp a
    · exact .inl u
    · exact .inr (m.d a e)

/-! ### from cells to data -/
def dat (c : Cell) : M D := lift c.data
theorem EC.es {e : Expr} {f : M Cell} (h : EC X W p e f) : ES X W p e (DL.bnd f dat) := by
  obtain ⟨t, he, k⟩ := h
  refine ⟨t, he, fun F H σ env fp Q L P => k F H σ env fp Q L ?_⟩
  unfold DL.bnd at P
  cases hf : f env with
  | ex c e => rw [hf] at P; exact P
  | no => rw [hf] at P; exact P
  | ok c e =>
    rw [hf] at P
    obtain ⟨dd, hd, P⟩ := P.lift
    intro F' H' fp' m L' v ⟨l, o, d, nw⟩
    have e1 : Same F' (frzAt F' H' l) := frzAt_same fun a m => (o.free a m).1
    have dp : Dq X.K (frzAt F' H' l) v dd := o.dp e1 hd fun a m ob e _ => by rw [frzAt_in m]; exact e
    have L2 : LOk X.K X.mg (frzAt F' H' l) H' σ e fp' := L'.ext e1 (frzAt_le L'.same) (fun _ _ _ e _ => e) (fun a u => by rw [frzAt_out (fun m => d a m u)]; exact (L'.free u).1) L'.tab (ntf_frz L'.ntf fun a m => (o.free a m).2)
    refine P (frzAt F' H' l) H' fp' ⟨m.f.trans e1, m.h, fun a ob e => ?_, m.u, m.d⟩ L2 v dp
    by_cases ha : a ∈ l
    · rcases nw a ha with u | e
      · exact .inr (.inr u)
      · exact .inr (.inl e)
    · rw [frzAt_out ha] at e; exact m.n a ob e
theorem ES.ep {e : Expr} {f : M D} (h : ES X W p e f) : EP X W p e f := by
  obtain ⟨t, he, k⟩ := h
  exact ⟨t, he, fun F H σ env fp Q L P => k F H σ env fp Q L (P.imp fun c e F' H' fp' m' L' z v dp => z v (.dp dp))⟩
def fzc (f : M D) : M Cell := DL.bnd f fun d => DL.ret (.fz d)
theorem ES.ec {e : Expr} {f : M D} (h : ES X W p e f) : EC X W p e (fzc f) := by
  obtain ⟨t, he, k⟩ := h
  exact ⟨t, he, fun F H σ env fp Q L P => k F H σ env fp Q L (P.bnd.imp fun d e F' H' fp' m' L' z v dp => z.ret L' v ⟨[], .fz dp, (fun _ m => by cases m), (fun _ m => by cases m)⟩)⟩
theorem EC.ep {e : Expr} {f : M Cell} (h : EC X W p e f) : EP X W p e (DL.bnd f dat) := h.es.ep
end
end DL

set_option Elab.async false
set_option linter.all false
set_option maxRecDepth 100000
set_option maxHeartbeats 4000000
/-! DL, part c: operations on data. -/
namespace L2
open PySem PySem.Spec PyProof.Rows
theorem tuple_mul1 (l : Addr) (items : Array Value) (n : Nat) (dd : Option Addr) (sl : Array (Option Value)) (u : Tok) :
    Meets (Builtin.«tuple.__mul__» ⟨[.ref l, .int 1 u], []⟩) (fun _ R s => s.heap.get? l = some { cls := .type "tuple", dict := dd, data := .seq items n, slots := sl } ∧ R (.ok (.ret (Value.ref l))) s) :=
  .of_wp fun prog w A R s h => by
    obtain ⟨hp, g, d, tk, os⟩ := s
    obtain ⟨hl, h⟩ := h
    have f1 := AutoSeq1.idx_int
    wp_walk using wpAny_loadPart' hl
    have c1 : (items.isEmpty || (1 : Int) == 1) = true := by simp
    repeat (first
      | (refine wpAny_ite_true (decide_eq_true (by rw [c1])) ?_; wp_walk using wpAny_loadPart' hl))
    exact ⟨_, rfl, h⟩
theorem tuple_mul0 (l : Addr) (items : Array Value) (n : Nat) (dd : Option Addr) (sl : Array (Option Value)) (u : Tok) (c1 : (items.isEmpty || (0 : Int) == 1) = false) :
    Meets (Builtin.«tuple.__mul__» ⟨[.ref l, .int 0 u], []⟩) (fun _ R s => s.heap.get? l = some { cls := .type "tuple", dict := dd, data := .seq items n, slots := sl } ∧
      R (.ok (.ret (Value.ref s.heap.objs.size))) { s with heap := s.heap.push { cls := Value.type "tuple", data := Data.seq #[] }, toks := s.toks }) :=
  .of_wp fun prog w A R s h => by
    obtain ⟨hp, g, d, tk, os⟩ := s
    obtain ⟨hl, h⟩ := h
    have f1 := AutoSeq1.idx_int
    wp_walk using wpAny_loadPart' hl
    refine wpAny_ite_false (decide_eq_false (by rw [c1]; exact Bool.false_ne_true)) ?_; wp_walk using wpAny_loadPart' hl
    exact ⟨_, rfl, h⟩
theorem rdLst {P : Program} {w : World} {X : Cx} {H : Hp} {a : Addr} {xs : List V} {pins : List (Addr × Obj)} {σ : L2.St} {s : Shared} (I : Inv X pins σ H s) (h : SqL X.K H a xs) :
    xs.length ≤ sizeLine ∧ ∃ (its : List Value) (n : Nat) (dd : Option Addr) (sl : Array (Option Value)), Vals xs its ∧ xs.length = its.length ∧ s.heap.get? a = some { cls := .type "list", dict := dd, data := .seq its.toArray n, slots := sl } := by
  obtain ⟨its, r, pl, z⟩ := I.list h
  obtain ⟨⟨cls, dd, data, sl⟩, n, ho, hc, _, hd⟩ := pl
  simp only at hc hd
  subst hc hd
  exact ⟨z, its, n, dd, sl, r, r.length, ho⟩
def rRepR (K : PySem.W.Frag) : R2 := fun x y H Q => ∃ l k xs, x = .ref l ∧ y = .int k ∧ SqL K H l xs ∧ -(2 ^ 63) ≤ k ∧ k < 2 ^ 63 ∧ xs.length * k.toNat ≤ sizeLine ∧
  ∀ p, H p = none → Q (.ref p) (upd H p (.lst (List.replicate k.toNat xs).flatten))
theorem op_repR {X : Cx} : OpR X (binaryOp .Mult) (rRepR X.K) := by
  intro pins s σ H x y v u Q I rx ry h
  obtain ⟨l, k, xs, rfl, rfl, hH, h1, h2, hz, q⟩ := h
  cases rx
  obtain ⟨t, rfl⟩ := ry
  obtain ⟨z, its, n, dd, sl, r, hl, e⟩ := rdLst (P := X.prog) (w := X.w) I hH
  have hlen : its.toArray.size * k.toNat ≤ sizeLine := by rw [List.size_toArray, ← hl]; exact hz
  have hcap : ¬ its.toArray.size * k.toNat > (2 ^ 63 - 1) / 8 := by
    have : (sizeLine : Nat) ≤ (2 ^ 63 - 1) / 8 := by decide
    omega
  have hfit : ¬ (!Builtin.List.listFitsIndex k) = true := by
    rw [fitsIndex_both h1 h2]
    exact Bool.false_ne_true
  have hlong : ¬ Builtin.List.listTooLong (its.toArray.size * k.toNat) = true := by
    rw [notLongL hlen]
    exact Bool.false_ne_true
  have hnew : List.foldl (fun x1 x2 => x1 ++ x2) #[] (List.replicate (if its.toArray.isEmpty = true then 0 else k.toNat) its.toArray) = (List.replicate k.toNat its).flatten.toArray := by
    have f0 : ∀ m : Nat, List.foldl (fun x1 x2 => x1 ++ x2) #[] (List.replicate m its.toArray) = (List.replicate m its).flatten.toArray := fun m => by
      have := foldl_rep its m []
      rw [List.nil_append] at this
      exact this
    rw [f0]
    cases its with
    | nil => simp
    | cons a r' => rw [if_neg (by simp)]
  refine wpAny_binaryOp_repeat_ref (T := "list") (U := "int") (by decide) ⟨_, e, rfl⟩ (fun s' => typeIs_int s' k t) noFill_list_mul F.fills_int_mul F.slot_int_rmul repeat_list F.slot_int_index.lookup
    (call_meets F.slot_int_rmul (typeIs_int s k t) F.entry_int_rmul (F.args_int_rmul_2 _ _) (lm_int_rmul_list_any k t l its.toArray n dd sl)
      ⟨e, rfl, ⟨_, e, rfl⟩, call_meets F.slot_list_mul ⟨_, e, rfl⟩ F.entry_list_mul (F.args_list_mul_2 _ _) (lm_list_mul_any l its.toArray n dd sl k t hfit hcap hlong) ⟨e, ?_⟩⟩)
  rw [hnew]
  exact ⟨.ref _, _, I.lnew (t' := s.toks) (r.rep k.toNat) (by rw [PyProof.Rows.lm_len_rep_flat, Nat.mul_comm]; exact hz), rfl, q _ I.fresh⟩
end L2
namespace DL
open PySem PySem.Spec L2

/-! ### operations, as functions of data -/
def dAdd : D → D → Option Cell
  | .int i, .int j => some (.fz (.int (i + j)))
  | .str a, .str b => if a.length + b.length ≤ sizeLine then some (.fz (.str (a ++ b))) else none
  | .list a, .list b => if a.length + b.length ≤ sizeLine then some (.ow (a ++ b)) else none
  | .tuple a, .tuple b => if a.length + b.length ≤ sizeLine then some (.fz (.tuple (a ++ b))) else none
  | _, _ => none
def dSub : D → D → Option Cell
  | .int i, .int j => some (.fz (.int (i - j)))
  | _, _ => none
/-- one factor is small -/
def mulOk (i j : Int) : Bool := decide (i.natAbs < 18446744073709551616) || decide (j.natAbs < 18446744073709551616) || decide (i.natAbs.log2 + j.natAbs.log2 < 1000000)
def dMul : D → D → Option Cell
  | .int i, .int j => if mulOk i j = true then some (.fz (.int (i * j))) else none
  | .list a, .int k => if k < 9223372036854775808 ∧ -9223372036854775808 ≤ k ∧ a.length * k.toNat ≤ sizeLine then some (.ow (List.replicate k.toNat a).flatten) else none
  | .str z, .int k => if 1 ≤ z.length ∧ z.length ≤ 1000 ∧ 2 ≤ k ∧ k ≤ 1000 then some (.fz (.str ⟨(List.replicate k.toNat z.cps).foldl (· ++ ·) #[]⟩)) else none
  | .tuple a, .int k => if 1 ≤ a.length ∧ a.length ≤ 1000 ∧ 0 ≤ k ∧ k ≤ 1000 then some (.fz (.tuple (List.replicate k.toNat a).flatten)) else none
  | _, _ => none
def dDiv : D → D → Option Cell
  | .int i, .int j => if 0 < j ∧ j.natAbs.log2 < 9000 then some (.fz (.int (i / j))) else none
  | _, _ => none
def dMod : D → D → Option Cell
  | .int i, .int j => if 0 < j then some (.fz (.int (i % j))) else none
  | _, _ => none
def dPow : D → D → Option Cell
  | .int i, .int j => if 0 ≤ j ∧ j ≤ 1000000 ∧ i.natAbs < 18446744073709551616 then some (.fz (.int (i ^ j.toNat))) else none
  | _, _ => none
def dShl : D → D → Option Cell
  | .int i, .int j => if 0 ≤ j ∧ j ≤ 1000000 ∧ i.natAbs < 18446744073709551616 then some (.fz (.int (i * 2 ^ j.toNat))) else none
  | _, _ => none
def dShr : D → D → Option Cell
  | .int i, .int j => if 0 ≤ j then some (.fz (.int (i / 2 ^ j.toNat))) else none
  | _, _ => none
def dAnd : D → D → Option Cell
  | .int i, .int j => some (.fz (.int (Builtin.bitAnd i j)))
  | _, _ => none
def dXor : D → D → Option Cell
  | .int i, .int j => some (.fz (.int (Builtin.bitXor i j)))
  | _, _ => none
def dEq (a b : D) : Option Cell := if SeqAt.shaped a = true ∧ SeqAt.shaped b = true then some (.fz (.bool (PyData.eqv a b))) else none
def dNe (a b : D) : Option Cell := if SeqAt.shaped a = true ∧ SeqAt.shaped b = true then some (.fz (.bool (!PyData.eqv a b))) else none
def intsOf : List D → Option (List Int)
  | [] => some []
  | .int i :: r => (intsOf r).map (i :: ·)
  | _ => none
def dLt : D → D → Option Cell
  | .int i, .int j => some (.fz (.bool (decide (i < j))))
  | _, _ => none
def dLe : D → D → Option Cell
  | .int i, .int j => some (.fz (.bool (decide (i ≤ j))))
  | _, _ => none
def dGt : D → D → Option Cell
  | .int i, .int j => some (.fz (.bool (decide (j < i))))
  | _, _ => none
def dGe : D → D → Option Cell
  | .int i, .int j => some (.fz (.bool (decide (j ≤ i))))
  | _, _ => none
/-- none, a truth value, an int, a text -/
def flatD : D → Bool
  | .none | .bool _ | .int _ | .str _ => true
  | _ => false
/-- one sign in a text -/
def dIn : D → D → Option Bool
  | d, .list ds => if SeqAt.shaped d = true ∧ SeqAt.shaped (.list ds) = true then some (ds.any fun z => PyData.eqv z d) else none
  | d, .tuple ds => if flatD d = true ∧ ds.all flatD = true then some (ds.any fun z => PyData.eqv z d) else none
  | .str a, .str b => some (!(Builtin.Str.occurrences b a 0 b.length 1).isEmpty)
  | _, _ => none
def dInC (a b : D) : Option Cell := (dIn a b).map fun k => .fz (.bool k)
def dNotInC (a b : D) : Option Cell := (dIn a b).map fun k => .fz (.bool (!k))
def isNone : D → Bool
  | .none => true
  | _ => false
def dIs : D → D → Option Cell
  | a, .none => some (.fz (.bool (isNone a)))
  | .bool a, .bool b => some (.fz (.bool (decide (a = b))))
  | _, _ => none
def dIsNot : D → D → Option Cell
  | a, .none => some (.fz (.bool (!isNone a)))
  | .bool a, .bool b => some (.fz (.bool (!decide (a = b))))
  | _, _ => none
def signD (c : Nat) : D := .str ⟨#[c]⟩
def dIdx : D → D → Option Cell
  | .list ds, .int i => (atI ds i).map .fz
  | .tuple ds, .int i => (atI ds i).map .fz
  | .str z, .int i => if z.length ≤ sizeLine then (atI z.cps.toList i).map fun c => .fz (signD c) else none
  | _, _ => none

theorem foldA_size (c : Array Nat) : ∀ (k : Nat) (acc : Array Nat), ((List.replicate k c).foldl (· ++ ·) acc).size = acc.size + k * c.size
  | 0, acc => by simp
  | k + 1, acc => by
    rw [List.replicate_succ, List.foldl_cons, foldA_size c k, Array.size_append, Nat.succ_mul]; omega
/-- a tuple, so many times -/
def rRepZ (K : PySem.W.Frag) : R2 := fun x y H Q => ∃ a k xs, x = .ref a ∧ y = .int k ∧ SqT K H a xs ∧ 1 ≤ xs.length ∧ 2 ≤ k ∧ k ≤ 1000 ∧ xs.length ≤ 1000 ∧ NewT (List.replicate k.toNat xs).flatten H Q
theorem op_repZ {X : Cx} : OpR X (binaryOp .Mult) (rRepZ X.K) := by
  intro pins s σ H x y v u Q I rx ry ⟨a, k, xs, ex, ey, hT, h0, h1, h2, hz, q⟩
  subst ex ey
  cases rx
  obtain ⟨t, e⟩ := ry
  subst e
  obtain ⟨its, r, ⟨⟨cls, dd, data, sl⟩, ho, hc, n, hd⟩, _⟩ := I.tuple hT
  simp only at hc hd
  subst hc hd
  have le1 : its.length = xs.length := r.length.symm
  have ne1 : its.toArray.isEmpty = false := by
    cases its with
    | nil => simp at le1; omega
    | cons b c => rfl
  have sz1 : its.toArray.size = xs.length := by rw [List.size_toArray, le1]
  have up1 : ((its.toArray.size : Nat) : Int) * k ≤ 1000000 := by
    have := Int.mul_le_mul_of_nonneg_right (a := ((xs.length : Nat) : Int)) (b := 1000) (c := k) (by omega) (by omega)
    rw [sz1]; omega
  have up2 : k.toNat * xs.length ≤ 1000 * 1000 := Nat.mul_le_mul (by omega) hz
  have lenf : ∀ {α : Type} (l : List α), l.length = xs.length → (List.replicate k.toNat l).flatten.length ≤ sizeLine := fun l hl => by
    rw [PyProof.Rows.lm_len_rep_flat, hl, sizeLine_eq]; omega
  have d0 : (decide (k < -(2 ^ 63)) || decide (k ≥ 2 ^ 63)) = false := by simp; omega
  have d1 : (its.toArray.isEmpty || k == 1) = false := by rw [ne1, Bool.false_or]; exact beq_eq_false_iff_ne.mpr (by omega)
  have d2 : (decide (k ≤ 0) || its.toArray.isEmpty) = false := by rw [ne1, Bool.or_false]; exact decide_eq_false (by omega)
  have d4 : Builtin.Tuple.tupleTooMany (((its.toArray.size : Nat) : Int) * k) = false := by
    unfold Builtin.Tuple.tupleTooMany; rw [sizeLine_eq]; exact decide_eq_false (by omega)
  refine wpAny_binaryOp_repeat_ref (T := "tuple") (U := "int") (by decide) ⟨_, ho, rfl⟩ (fun s' => typeIs_int s' k t)
    noFill_tuple_mul F.fills_int_mul F.slot_int_rmul repeat_tuple F.slot_int_index.lookup ?_
  refine call_meets F.slot_int_rmul (typeIs_int s k t) F.entry_int_rmul (F.args_int_rmul_2 _ _) (int_rmul_tuple k t a its.toArray n dd sl) ⟨ho, rfl, ⟨_, ho, rfl⟩, ?_⟩
  refine call_meets F.slot_tuple_mul ⟨_, ho, rfl⟩ F.entry_tuple_mul (F.args_tuple_mul_2 _ _) (tuple_mulW a its.toArray n dd sl k t d0 d1 d2 (by omega) d4 (by rw [size_rep, List.size_toArray]; exact lenf its le1)) ⟨ho, ?_⟩
  rw [size_rep]
  exact ⟨.ref s.heap.objs.size, _, I.laidT (t' := s.toks) (fun b u e => Heap.get?_push_of_some _ e) (Nat.le_refl _) (Heap.get?_push_size _ rfl) (lenf xs rfl) (r.rep k.toNat) (PyProof.Rows.IsTup.new _ _), rfl, q _ _ (I.hok.fresh (Nat.le_refl _)) rfl⟩
/-- a tuple, once -/
theorem op_rep1T {X : Cx} : OpR X (binaryOp .Mult) (fun x y H Q => ∃ a xs, x = .ref a ∧ y = .int 1 ∧ SqT X.K H a xs ∧ Q (.ref a) H) := by
  intro pins s σ H x y v u Q I rx ry ⟨a, xs, ex, ey, hT, q⟩
  subst ex ey
  cases rx
  obtain ⟨t, e⟩ := ry
  subst e
  obtain ⟨its, r, ⟨⟨cls, dd, data, sl⟩, ho, hc, n, hd⟩, _⟩ := I.tuple hT
  simp only at hc hd
  subst hc hd
  refine wpAny_binaryOp_repeat_ref (T := "tuple") (U := "int") (by decide) ⟨_, ho, rfl⟩ (fun s' => typeIs_int s' 1 t)
    noFill_tuple_mul F.fills_int_mul F.slot_int_rmul repeat_tuple F.slot_int_index.lookup ?_
  refine call_meets F.slot_int_rmul (typeIs_int s 1 t) F.entry_int_rmul (F.args_int_rmul_2 _ _) (int_rmul_tuple 1 t a its.toArray n dd sl) ⟨ho, rfl, ⟨_, ho, rfl⟩, ?_⟩
  exact call_meets F.slot_tuple_mul ⟨_, ho, rfl⟩ F.entry_tuple_mul (F.args_tuple_mul_2 _ _) (tuple_mul1 a its.toArray n dd sl t) ⟨ho, .ref a, H, I, rfl, q⟩
/-- .. not at all -/
theorem op_rep0T {X : Cx} : OpR X (binaryOp .Mult) (fun x y H Q => ∃ a xs, x = .ref a ∧ y = .int 0 ∧ SqT X.K H a xs ∧ 1 ≤ xs.length ∧ NewT [] H Q) := by
  intro pins s σ H x y v u Q I rx ry ⟨a, xs, ex, ey, hT, h0, q⟩
  subst ex ey
  cases rx
  obtain ⟨t, e⟩ := ry
  subst e
  obtain ⟨its, r, ⟨⟨cls, dd, data, sl⟩, ho, hc, n, hd⟩, _⟩ := I.tuple hT
  simp only at hc hd
  subst hc hd
  have le1 : its.length = xs.length := r.length.symm
  have ne1 : its.toArray.isEmpty = false := by
    cases its with
    | nil => simp at le1; omega
    | cons b c => rfl
  refine wpAny_binaryOp_repeat_ref (T := "tuple") (U := "int") (by decide) ⟨_, ho, rfl⟩ (fun s' => typeIs_int s' 0 t)
    noFill_tuple_mul F.fills_int_mul F.slot_int_rmul repeat_tuple F.slot_int_index.lookup ?_
  refine call_meets F.slot_int_rmul (typeIs_int s 0 t) F.entry_int_rmul (F.args_int_rmul_2 _ _) (int_rmul_tuple 0 t a its.toArray n dd sl) ⟨ho, rfl, ⟨_, ho, rfl⟩, ?_⟩
  refine call_meets F.slot_tuple_mul ⟨_, ho, rfl⟩ F.entry_tuple_mul (F.args_tuple_mul_2 _ _) (tuple_mul0 a its.toArray n dd sl t (by rw [ne1]; rfl)) ⟨ho, ?_⟩
  exact ⟨.ref s.heap.objs.size, _, I.laidT (xs := []) (t' := s.toks) (fun b u e => Heap.get?_push_of_some _ e) (Nat.le_refl _) (Heap.get?_push_size _ rfl) (Nat.zero_le _) .nil (PyProof.Rows.IsTup.new _ _), rfl, q _ _ (I.hok.fresh (Nat.le_refl _)) rfl⟩
/-! ### they are what the operators do -/
section
variable (X : Cx)
def rD (g : D → D → Option Cell) : R2 := fun x y H Q => ∃ F d1 d2 c, Same F H ∧ Pk X.K F H x d1 ∧ Pk X.K F H y d2 ∧ g d1 d2 = some c ∧ NewV X F H c Q
end
section
variable {X : Cx} {F H : Hp}
theorem opD_add : OpR X (binaryOp .Add) (rD X dAdd) := by
  intro pins s σ H x y v u Q I rx ry ⟨F, d1, d2, c, sm, h1, h2, hg, q⟩
  cases d1 <;> cases d2 <;> simp only [dAdd, reduceCtorEq] at hg
  case int.int i j =>
    cases hg
    exact op_add pins s σ H x y v u Q I rx ry ⟨_, _, h1.int, h2.int, q.fz sm (.int _)⟩
  case str.str i j =>
    split at hg
    · cases hg
      exact op_add_str pins s σ H x y v u Q I rx ry ⟨_, _, h1.str, h2.str, by assumption, q.fz sm (.str _)⟩
    · cases hg
  case list.list i j =>
    split at hg
    · cases hg
      rename_i hz
      obtain ⟨l, vs, rfl, hl, al⟩ := h1.list sm
      obtain ⟨b, ws, rfl, hb, bl⟩ := h2.list sm
      cases rx
      cases ry
      obtain ⟨z, its, n, dd, sl, r, hl1, e⟩ := rdLst (P := X.prog) (w := X.w) I hl
      obtain ⟨z2, its2, n2, dd2, sl2, r2, hl2, e2⟩ := rdLst (P := X.prog) (w := X.w) I hb
      have l1 := al.len
      have l2 := bl.len
      refine concat_meets ⟨_, e, rfl⟩ ⟨_, e2, rfl⟩ noFill_list_add seq_list_add PySem.F.slot_list_add PySem.F.entry_list_add (PySem.F.args_list_add_2 _ _) (PyProof.Rows.list_addW l b its.toArray its2.toArray n n2 dd dd2 sl sl2 (by rw [List.size_toArray, List.size_toArray]; omega)) ⟨e, e2, ?_⟩
      have ea : its.toArray ++ its2.toArray = (its ++ its2).toArray := by simp
      rw [ea]
      exact ⟨.ref _, _, I.lnew (t' := s.toks) (r.append r2) (by rw [List.length_append]; omega), rfl, q.ow sm (al.append bl) I.fresh⟩
    · cases hg
  case tuple.tuple i j =>
    split at hg
    · cases hg
      rename_i hz
      obtain ⟨l, vs, rfl, hl, al⟩ := h1.tuple sm
      obtain ⟨b, ws, rfl, hb, bl⟩ := h2.tuple sm
      have l1 := al.len
      have l2 := bl.len
      refine op_catZ pins s σ H _ _ v u Q I rx ry ⟨l, b, vs, ws, rfl, rfl, hl.sq, hb.sq, by omega, fun e => ?_, fun e e2 => ?_, fun _ _ => q.tup sm (al.append bl)⟩
      · subst e
        cases al
        rw [List.nil_append] at q
        cases h2 with
        | dp h2 => exact q.fz sm h2
      · subst e2
        cases bl
        rw [List.append_nil] at q
        cases h1 with
        | dp h1 => exact q.fz sm h1
    · cases hg
theorem opD_sub : OpR X (binaryOp .Sub) (rD X dSub) := by
  intro pins s σ H x y v u Q I rx ry ⟨F, d1, d2, c, sm, h1, h2, hg, q⟩
  cases d1 <;> cases d2 <;> simp only [dSub, reduceCtorEq] at hg
  cases hg
  exact op_sub pins s σ H x y v u Q I rx ry ⟨_, _, h1.int, h2.int, q.fz sm (.int _)⟩
theorem opD_mul : OpR X (binaryOp .Mult) (rD X dMul) := by
  intro pins s σ H x y v u Q I rx ry ⟨F, d1, d2, c, sm, h1, h2, hg, q⟩
  cases d1 <;> cases d2 <;> simp only [dMul, reduceCtorEq] at hg
  case int.int i j =>
    split at hg
    · cases hg
      rename_i hm
      simp only [mulOk, Bool.or_eq_true, decide_eq_true_eq] at hm
      have hc : CMul i j ∨ CMulW i j := by
        rcases hm with (hm | hm) | hm
        · exact .inl (.inl ⟨by omega, by omega⟩)
        · exact .inl (.inr ⟨by omega, by omega⟩)
        · exact .inr hm
      rcases hc with hc | hc
      · exact op_mul pins s σ H x y v u Q I rx ry ⟨_, _, h1.int, h2.int, hc, q.fz sm (.int _)⟩
      · exact op_mulW pins s σ H x y v u Q I rx ry ⟨_, _, h1.int, h2.int, hc, q.fz sm (.int _)⟩
    · cases hg
  case list.int a k =>
    split at hg
    · cases hg
      rename_i hm
      obtain ⟨h2', h1', hz⟩ := hm
      obtain ⟨l, xs, rfl, hl, al⟩ := h1.list sm
      have ll := al.len
      exact op_repR pins s σ H _ y v u Q I rx ry ⟨l, k, xs, rfl, h2.int, hl, by omega, by omega, by rw [ll]; exact hz, fun p hp => q.ow sm (al.repF k.toNat) hp⟩
    · cases hg
  case str.int z k =>
    split at hg
    · cases hg
      rename_i hm
      have ex := h1.str
      have ey := h2.int
      subst ex ey
      obtain ⟨t, rfl⟩ := rx
      obtain ⟨t', rfl⟩ := ry
      have c1 : ¬ k < 1 := by omega
      have c2 : (k == 1 || z.length == 0) = false := by
        rw [Bool.or_eq_false_iff]
        exact ⟨beq_eq_false_iff_ne.mpr (by omega), beq_eq_false_iff_ne.mpr (by omega)⟩
      refine PySem.P.mul_str (by rw [decide_eq_false (by omega), decide_eq_false (by omega)]; rfl) (fun _ _ => ?_) (fun _ _ => ?_) ?_
      · have hd : (1000 : Int) ≤ (2 ^ 63 - 1) / k := Int.le_ediv_of_mul_le (by omega) (by omega)
        omega
      · unfold Builtin.Str.tooLong
        have : z.length * k.toNat ≤ 1000 * 1000 := Nat.mul_le_mul (by omega) (by omega)
        rw [sizeLine_eq]
        exact decide_eq_false (by omega)
      · rw [if_neg c1, if_neg (by rw [c2]; decide)]
        refine ⟨?_, .str _, _, I.tok _, ⟨_, rfl⟩, q.fz sm (.str _)⟩
        show Array.size _ ≤ _
        rw [foldA_size, sizeLine_eq]
        have hz : z.cps.size = z.length := rfl
        have : k.toNat * z.length ≤ 1000 * 1000 := Nat.mul_le_mul (by omega) (by omega)
        rw [hz]; simp; omega
    · cases hg
  case tuple.int a k =>
    split at hg
    · cases hg
      rename_i hm
      obtain ⟨l, xs, rfl, hl, al⟩ := h1.tuple sm
      have ll := al.len
      by_cases k0 : k = 0
      · subst k0
        exact op_rep0T pins s σ H _ y v u Q I rx ry ⟨l, xs, rfl, h2.int, hl.sq, by omega, q.tup sm (al.repF 0)⟩
      · by_cases k1 : k = 1
        · subst k1
          refine op_rep1T pins s σ H _ y v u Q I rx ry ⟨l, xs, rfl, h2.int, hl.sq, ?_⟩
          have e1 : (List.replicate (1 : Int).toNat a).flatten = a := by simp
          rw [e1] at q
          cases h1 with
          | dp h1 => exact q.fz sm h1
        · exact op_repZ pins s σ H _ y v u Q I rx ry ⟨l, k, xs, rfl, h2.int, hl.sq, by omega, by omega, by omega, by omega, q.tup sm (al.repF k.toNat)⟩
    · cases hg
theorem opD_div : OpR X (binaryOp .FloorDiv) (rD X dDiv) := by
  intro pins s σ H x y v u Q I rx ry ⟨F, d1, d2, c, sm, h1, h2, hg, q⟩
  cases d1 <;> cases d2 <;> simp only [dDiv, reduceCtorEq] at hg
  split at hg
  · cases hg
    rename_i hm
    exact op_fdivW pins s σ H x y v u Q I rx ry ⟨_, _, h1.int, h2.int, hm, q.fz sm (.int _)⟩
  · cases hg
theorem opD_mod : OpR X (binaryOp .Mod) (rD X dMod) := by
  intro pins s σ H x y v u Q I rx ry ⟨F, d1, d2, c, sm, h1, h2, hg, q⟩
  cases d1 <;> cases d2 <;> simp only [dMod, reduceCtorEq] at hg
  split at hg
  · cases hg
    rename_i hm
    exact op_mod pins s σ H x y v u Q I rx ry ⟨_, _, h1.int, h2.int, hm, q.fz sm (.int _)⟩
  · cases hg
theorem opD_pow : OpR X (binaryOp .Pow) (rD X dPow) := by
  intro pins s σ H x y v u Q I rx ry ⟨F, d1, d2, c, sm, h1, h2, hg, q⟩
  cases d1 <;> cases d2 <;> simp only [dPow, reduceCtorEq] at hg
  split at hg
  · cases hg
    rename_i hm
    exact op_pow pins s σ H x y v u Q I rx ry ⟨_, _, h1.int, h2.int, ⟨hm.1, hm.2.1, by simpa using hm.2.2⟩, q.fz sm (.int _)⟩
  · cases hg
theorem opD_shl : OpR X (binaryOp .LShift) (rD X dShl) := by
  intro pins s σ H x y v u Q I rx ry ⟨F, d1, d2, c, sm, h1, h2, hg, q⟩
  cases d1 <;> cases d2 <;> simp only [dShl, reduceCtorEq] at hg
  split at hg
  · cases hg
    rename_i hm
    exact op_shl pins s σ H x y v u Q I rx ry ⟨_, _, h1.int, h2.int, ⟨hm.1, hm.2.1, by simpa using hm.2.2⟩, q.fz sm (.int _)⟩
  · cases hg
theorem opD_shr : OpR X (binaryOp .RShift) (rD X dShr) := by
  intro pins s σ H x y v u Q I rx ry ⟨F, d1, d2, c, sm, h1, h2, hg, q⟩
  cases d1 <;> cases d2 <;> simp only [dShr, reduceCtorEq] at hg
  split at hg
  · cases hg
    rename_i hm
    exact op_shr pins s σ H x y v u Q I rx ry ⟨_, _, h1.int, h2.int, hm, q.fz sm (.int _)⟩
  · cases hg
theorem opD_and : OpR X (binaryOp .BitAnd) (rD X dAnd) := by
  intro pins s σ H x y v u Q I rx ry ⟨F, d1, d2, c, sm, h1, h2, hg, q⟩
  cases d1 <;> cases d2 <;> simp only [dAnd, reduceCtorEq] at hg
  cases hg
  exact op_and pins s σ H x y v u Q I rx ry ⟨_, _, h1.int, h2.int, q.fz sm (.int _)⟩
theorem opD_xor : OpR X (binaryOp .BitXor) (rD X dXor) := by
  intro pins s σ H x y v u Q I rx ry ⟨F, d1, d2, c, sm, h1, h2, hg, q⟩
  cases d1 <;> cases d2 <;> simp only [dXor, reduceCtorEq] at hg
  cases hg
  exact op_xor pins s σ H x y v u Q I rx ry ⟨_, _, h1.int, h2.int, q.fz sm (.int _)⟩
/-! ### comparisons -/
theorem opD_eq (hu : X.A.units + 64 < cLine) : OpR X (compareOp .Eq) (rD X dEq) := by
  intro pins s σ H x y v u Q I rx ry ⟨F, d1, d2, c, sm, h1, h2, hg, q⟩
  unfold dEq at hg
  split at hg
  · cases hg
    rename_i hm
    exact op_eqD hu pins s σ H x y v u Q I rx ry ⟨d1, d2, (h1.dqH sm).dp, (h2.dqH sm).dp, hm.1, hm.2, q.fz sm (.bl _)⟩
  · cases hg
theorem opD_ne (hu : X.A.units + 64 < cLine) : OpR X (compareOp .NotEq) (rD X dNe) := by
  intro pins s σ H x y v u Q I rx ry ⟨F, d1, d2, c, sm, h1, h2, hg, q⟩
  unfold dNe at hg
  split at hg
  · cases hg
    rename_i hm
    exact op_neD hu pins s σ H x y v u Q I rx ry ⟨d1, d2, (h1.dqH sm).dp, (h2.dqH sm).dp, hm.1, hm.2, q.fz sm (.bl _)⟩
  · cases hg
theorem opD_lt : OpR X (compareOp .Lt) (rD X dLt) := by
  intro pins s σ H x y v u Q I rx ry ⟨F, d1, d2, c, sm, h1, h2, hg, q⟩
  cases d1 <;> cases d2 <;> simp only [dLt, reduceCtorEq] at hg
  cases hg
  exact op_lt pins s σ H x y v u Q I rx ry ⟨_, _, h1.int, h2.int, q.fz sm (.bl _)⟩
theorem opD_le : OpR X (compareOp .LtE) (rD X dLe) := by
  intro pins s σ H x y v u Q I rx ry ⟨F, d1, d2, c, sm, h1, h2, hg, q⟩
  cases d1 <;> cases d2 <;> simp only [dLe, reduceCtorEq] at hg
  cases hg
  exact op_le pins s σ H x y v u Q I rx ry ⟨_, _, h1.int, h2.int, q.fz sm (.bl _)⟩
theorem opD_gt : OpR X (compareOp .Gt) (rD X dGt) := by
  intro pins s σ H x y v u Q I rx ry ⟨F, d1, d2, c, sm, h1, h2, hg, q⟩
  cases d1 <;> cases d2 <;> simp only [dGt, reduceCtorEq] at hg
  cases hg
  exact op_gt pins s σ H x y v u Q I rx ry ⟨_, _, h1.int, h2.int, q.fz sm (.bl _)⟩
theorem opD_ge : OpR X (compareOp .GtE) (rD X dGe) := by
  intro pins s σ H x y v u Q I rx ry ⟨F, d1, d2, c, sm, h1, h2, hg, q⟩
  cases d1 <;> cases d2 <;> simp only [dGe, reduceCtorEq] at hg
  cases hg
  exact op_ge pins s σ H x y v u Q I rx ry ⟨_, _, h1.int, h2.int, q.fz sm (.bl _)⟩
theorem flat_of {K : PySem.W.Frag} {v : V} {d : D} (h : Dq K H v d) (f : flatD d = true) : flatV v = true := by
  cases h <;> first | rfl | (simp [flatD] at f)
theorem eqV_of {K : PySem.W.Frag} {v w : V} {d e : D} (h : Dq K H v d) (h' : Dq K H w e) (f : flatD d = true) (f' : flatD e = true) : eqV v w = PyData.eqv d e := by
  cases h <;> cases h' <;> first | (simp [flatD] at f; done) | (simp [flatD] at f'; done) | rfl | skip
  all_goals first
    | (simp only [eqV, PyData.eqv]; done)
    | (unfold eqV PyData.eqv; simp; done)
    | skip
theorem inV_of {K : PySem.W.Frag} {v : V} {d : D} (h : Dq K H v d) (f : flatD d = true) : ∀ {vs : List V} {ds : List D}, DqAll K H vs ds → ds.all flatD = true → inV v vs = ds.any (fun z => PyData.eqv z d) ∧ vs.all flatV = true
  | _, _, .nil, _ => ⟨rfl, rfl⟩
  | _, _, .cons h1 h2, g => by
    rw [List.all_cons, Bool.and_eq_true] at g
    obtain ⟨i1, i2⟩ := inV_of h f h2 g.2
    unfold inV at i1 ⊢
    exact ⟨by rw [List.any_cons, List.any_cons, i1, eqV_of h1 h g.1 f], by rw [List.all_cons, i2, flat_of h1 g.1]; rfl⟩
theorem opD_in (hu : X.A.units + 65 < cLine) : OpR X (compareOp .In) (rD X dInC) := by
  intro pins s σ H x y v u Q I rx ry ⟨F, d1, d2, c, sm, h1, h2, hg, q⟩
  unfold dInC at hg
  cases hk : dIn d1 d2 with
  | none => rw [hk] at hg; cases hg
  | some k =>
    rw [hk] at hg; cases hg
    replace q := q.fz sm (.bl k)
    cases d2 <;> simp only [dIn] at hk
    case list ds =>
      split at hk
      · cases hk
        rename_i hm
        exact op_inD hu pins s σ H x y v u Q I rx ry ⟨d1, ds, (h1.dqH sm).dp, (h2.dqH sm).dp, hm.1, hm.2, q⟩
      · cases hk
    case tuple ds =>
      split at hk
      · cases hk
        rename_i hm
        obtain ⟨b, ws, rfl, hb, bl⟩ := h2.tuple sm
        obtain ⟨e1, e2⟩ := inV_of (h1.dqH sm) hm.1 (DqAll_mono sm _ _ bl) hm.2
        refine op_in_seq pins s σ H x _ v u Q I rx ry ⟨b, ws, rfl, .inr hb.sq, flat_of (h1.dqH sm) hm.1, e2, ?_⟩
        rw [e1]; exact q
      · cases hk
    case str z =>
      cases d1 <;> simp only [dIn, reduceCtorEq] at hk
      cases hk
      exact op_in_str pins s σ H x y v u Q I rx ry ⟨_, _, h1.str, h2.str, q⟩
    all_goals (cases d1 <;> simp [dIn] at hk)
theorem opD_notIn (hu : X.A.units + 65 < cLine) : OpR X (compareOp .NotIn) (rD X dNotInC) := by
  intro pins s σ H x y v u Q I rx ry ⟨F, d1, d2, c, sm, h1, h2, hg, q⟩
  unfold dNotInC at hg
  cases hk : dIn d1 d2 with
  | none => rw [hk] at hg; cases hg
  | some k =>
    rw [hk] at hg; cases hg
    replace q := q.fz sm (.bl (!k))
    cases d2 <;> simp only [dIn] at hk
    case list ds =>
      split at hk
      · cases hk
        rename_i hm
        exact op_notInD hu pins s σ H x y v u Q I rx ry ⟨d1, ds, (h1.dqH sm).dp, (h2.dqH sm).dp, hm.1, hm.2, q⟩
      · cases hk
    case tuple ds =>
      split at hk
      · cases hk
        rename_i hm
        obtain ⟨b, ws, rfl, hb, bl⟩ := h2.tuple sm
        obtain ⟨e1, e2⟩ := inV_of (h1.dqH sm) hm.1 (DqAll_mono sm _ _ bl) hm.2
        refine op_notIn_seq pins s σ H x _ v u Q I rx ry ⟨b, ws, rfl, .inr hb.sq, flat_of (h1.dqH sm) hm.1, e2, ?_⟩
        rw [e1]; exact q
      · cases hk
    case str z =>
      cases d1 <;> simp only [dIn, reduceCtorEq] at hk
      cases hk
      exact op_notIn_str pins s σ H x y v u Q I rx ry ⟨_, _, h1.str, h2.str, q⟩
    all_goals (cases d1 <;> simp [dIn] at hk)
theorem isNone_iff {K : PySem.W.Frag} {v : V} {d : D} (h : Dq K H v d) : decide (v = .non) = isNone d := by
  cases h <;> simp [isNone]
theorem opD_is : OpR X (compareOp .Is) (rD X dIs) := by
  intro pins s σ H x y v u Q I rx ry ⟨F, d1, d2, c, sm, h1, h2, hg, q⟩
  cases d2 <;> simp only [dIs, reduceCtorEq] at hg
  case none =>
    cases hg
    refine op_isN pins s σ H x y v u Q I rx ry ⟨h2.none, ?_⟩
    rw [isNone_iff (h1.dqH sm)]; exact q.fz sm (.bl _)
  case bool b =>
    cases d1 <;> simp only [dIs, reduceCtorEq] at hg
    cases hg
    exact op_is_bl pins s σ H x y v u Q I rx ry ⟨_, _, h1.bool, h2.bool, q.fz sm (.bl _)⟩
  all_goals (cases d1 <;> simp [dIs] at hg)
theorem opD_isNot : OpR X (compareOp .IsNot) (rD X dIsNot) := by
  intro pins s σ H x y v u Q I rx ry ⟨F, d1, d2, c, sm, h1, h2, hg, q⟩
  cases d2 <;> simp only [dIsNot, reduceCtorEq] at hg
  case none =>
    cases hg
    refine op_notN pins s σ H x y v u Q I rx ry ⟨h2.none, ?_⟩
    rw [isNone_iff (h1.dqH sm)]; exact q.fz sm (.bl _)
  case bool b =>
    cases d1 <;> simp only [dIsNot, reduceCtorEq] at hg
    cases hg
    exact op_isnot_bl pins s σ H x y v u Q I rx ry ⟨_, _, h1.bool, h2.bool, q.fz sm (.bl _)⟩
  all_goals (cases d1 <;> simp [dIsNot] at hg)
/-! ### places -/
theorem atI_dq {K : PySem.W.Frag} {vs : List V} {ds : List D} {i : Int} {d : D} (h : DqAll K F vs ds) (e : atI ds i = some d) : ∃ v, atI vs i = some v ∧ Dq K F v d := by
  unfold atI at e ⊢
  rw [h.len]
  cases hj : ixN ds.length i with
  | none => rw [hj] at e; cases e
  | some j =>
    rw [hj] at e
    exact h.at e
theorem opD_idx : IxR X (rD X dIdx) := by
  intro value slice pins s σ H x y v u Q I rx ry ⟨F, d1, d2, c, sm, h1, h2, hg, q⟩ hs
  cases d1 <;> cases d2 <;> simp only [dIdx, reduceCtorEq] at hg
  case list.int ds i =>
    cases e : atI ds i with
    | none => rw [e] at hg; cases hg
    | some d =>
      rw [e] at hg; cases hg
      obtain ⟨a, vs, rfl, hl, al⟩ := h1.list sm
      obtain ⟨w, e', dw⟩ := atI_dq al e
      exact ix_list value slice pins s σ H _ y v u Q I rx ry ⟨a, vs, i, w, rfl, h2.int, hl, e', q.fz sm dw⟩ hs
  case tuple.int ds i =>
    cases e : atI ds i with
    | none => rw [e] at hg; cases hg
    | some d =>
      rw [e] at hg; cases hg
      obtain ⟨a, vs, rfl, hl, al⟩ := h1.tuple sm
      obtain ⟨w, e', dw⟩ := atI_dq al e
      exact ix_tup value slice pins s σ H _ y v u Q I rx ry ⟨a, vs, i, w, rfl, h2.int, hl.sq, e', q.fz sm dw⟩ hs
  case str.int z i =>
    split at hg
    · cases e : atI z.cps.toList i with
      | none => rw [e] at hg; cases hg
      | some d =>
        rw [e] at hg; cases hg
        exact ix_str value slice pins s σ H _ y v u Q I rx ry ⟨z, i, d, h1.str, h2.int, by assumption, e, q.fz sm (.str _)⟩ hs
    · cases hg
end
end DL

set_option Elab.async false
set_option linter.all false
set_option maxRecDepth 100000
set_option maxHeartbeats 4000000
/-! DL, part d: expressions. -/
namespace DL
open PySem PySem.Spec L2

def pk (i : Nat) : M D := fun e => match e[i]? with
  | some (some (.fz d)) => .ok d e
  | some (some (.ow ds)) => .ok (.list ds) e
  | _ => .no
def fr (i : Nat) : M D := fun e => match e[i]? with
  | some (some (.fz d)) => .ok d e
  | some (some c) => (match c.data with
    | some d => .ok d (e.set i (some (.fz d)))
    | none => .no)
  | _ => .no
def mvo (i : Nat) : M Cell := fun e => match e[i]? with
  | some (some c) => .ok c (e.set i none)
  | _ => .no
def op2 (g : D → D → Option Cell) (fa fb : M D) : M Cell := bnd fa fun x => bnd fb fun y => lift (g x y)
def asB (c : Cell) : M Bool := match c with
  | .fz (.bool k) => ret k
  | _ => stuck
def asBD (c : D) : M Bool := match c with
  | .bool k => ret k
  | _ => stuck
def asI (c : D) : M Int := match c with
  | .int k => ret k
  | _ => stuck
def mAnd (f g : M Bool) : M Bool := bnd f fun k => if k = true then g else ret false
def mOr (f g : M Bool) : M Bool := bnd f fun k => if k = true then ret true else g
def mNot (f : M Bool) : M Bool := bnd f fun k => ret (!k)
def mIf {α : Type} (c : M Bool) (f g : M α) : M α := bnd c fun k => if k = true then f else g
def boolD (f : M Bool) : M D := bnd f fun k => ret (.bool k)
def mTup (f : M (List D)) : M D := bnd f fun ds => if ds.length ≤ 16777216 then ret (.tuple ds) else stuck
def mLst (f : M (List D)) : M Cell := bnd f fun ds => if ds.length ≤ 16777216 then ret (.ow ds) else stuck
def mNil : M (List D) := ret []
def mCons (f : M D) (g : M (List D)) : M (List D) := bnd f fun d => bnd g fun ds => ret (d :: ds)
def opL (g : List D → Option Cell) (f : M (List D)) : M Cell := bnd f fun ds => lift (g ds)
def opM (g : D → List D → Option Cell) (fo : M D) (f : M (List D)) : M Cell := bnd fo fun d => bnd f fun ds => lift (g d ds)
def mPart (f : M D) : M (Option Int) := bnd f fun d => bnd (asI d) fun i => ret (some i)
def cutD (xs : List D) (lo hi : Option Int) : List D := (xs.drop (HT.sIx xs.length 0 lo)).take (HT.sIx xs.length xs.length hi - HT.sIx xs.length 0 lo)
def dSlice (d : D) (lo hi : Option Int) : Option Cell := match d with
  | .list ds => some (.ow (cutD ds lo hi))
  | .tuple ds => some (.fz (.tuple (cutD ds lo hi)))
  | .str z => if z.length ≤ 16777216 then some (.fz (.str (cutS z lo hi))) else none
  | _ => none
def opS (fe : M D) (fl fh : M (Option Int)) : M Cell := bnd fe fun d => bnd fl fun l => bnd fh fun h => lift (dSlice d l h)

section
variable {X : Cx} {W : WX} {p q : Bool} {e a b c o : Expr} {es rest : List Expr} {pos : Pos}
/-! ### weakening -/
theorem EC.weak {f : M Cell} (h : EC X W true e f) : EC X W p e f := by
  obtain ⟨t, he, k⟩ := h
  exact ⟨t, he, fun F H σ env fp Q L P => k F H σ env fp Q L (P.le (fun _ => rfl))⟩
theorem ES.weak {f : M D} (h : ES X W true e f) : ES X W p e f := by
  obtain ⟨t, he, k⟩ := h
  exact ⟨t, he, fun F H σ env fp Q L P => k F H σ env fp Q L (P.le (fun _ => rfl))⟩
theorem EP.weak {f : M D} (h : EP X W true e f) : EP X W p e f := by
  obtain ⟨t, he, k⟩ := h
  exact ⟨t, he, fun F H σ env fp Q L P => k F H σ env fp Q L (P.le (fun _ => rfl))⟩
theorem ET.weak {f : M Bool} (h : ET X W true e f) : ET X W p e f := by
  obtain ⟨t, he, k⟩ := h
  exact ⟨t, he, fun F H σ env fp Q L P => k F H σ env fp Q L (P.le (fun _ => rfl))⟩
theorem AC.weak {f : M (List D)} (h : AC X W true es f) : AC X W p es f := by
  obtain ⟨t, he, k⟩ := h
  exact ⟨t, he, fun F H σ env fp Q L P => k F H σ env fp Q L (P.le (fun _ => rfl))⟩

/-! ### names -/
theorem ep_var (i : Nat) {x : Str} (hN : X.N[i]? = some x := by rfl) (hv : Vis X.env.scope x := by first | exact Or.inl rfl | exact Or.inr (Or.inl rfl) | exact Or.inr (Or.inr rfl)) (hd : (x == ("__debug__" : Str)) = false := by decide)
    (hcd : (x == ("__classdict__" : Str)) = false := by decide) : EP X W true (.Name x pos) (pk i) := by
  refine ⟨_, pe_var hN hv hd hcd, fun F H σ env fp Q L P => ?_⟩
  cases e : env[i]? with
  | none => simp [pk, e, wpE] at P
  | some o =>
    cases o with
    | none => simp [pk, e, wpE] at P
    | some c =>
      obtain ⟨v, hv, ow⟩ := L.slot i c e
      generalize fp i = l at ow
      cases ow with
      | fz h => simp [pk, e] at P; exact ⟨v, hv, P F H fp (Mv.refl _ _ _ _) L v (.dp h)⟩
      | ow h1 h2 h3 => simp [pk, e] at P; exact ⟨_, hv, P F H fp (Mv.refl _ _ _ _) L _ (.ow h2 h3)⟩
      | _ => simp [pk, e, wpE] at P
theorem es_var (i : Nat) {x : Str} (hN : X.N[i]? = some x := by rfl) (hv : Vis X.env.scope x := by first | exact Or.inl rfl | exact Or.inr (Or.inl rfl) | exact Or.inr (Or.inr rfl)) (hd : (x == ("__debug__" : Str)) = false := by decide)
    (hcd : (x == ("__classdict__" : Str)) = false := by decide) : ES X W true (.Name x pos) (fr i) := by
  refine ⟨_, pe_var hN hv hd hcd, fun F H σ env fp Q L P => ?_⟩
  cases e : env[i]? with
  | none => simp [fr, e, wpE] at P
  | some o =>
    cases o with
    | none => simp [fr, e, wpE] at P
    | some c =>
      obtain ⟨v, hv, ow⟩ := L.slot i c e
      by_cases hf : ∃ d, c = .fz d
      · obtain ⟨d, rfl⟩ := hf
        generalize fp i = l at ow
        cases ow with
        | fz h => simp [fr, e] at P; exact ⟨v, hv, P F H fp (Mv.refl _ _ _ _) L v h⟩
      · cases hd : c.data with
        | none =>
          have z : fr i env = .no := by
            unfold fr; rw [e]
            cases c <;> first | exact absurd ⟨_, rfl⟩ hf | (simp only [hd])
          rw [z] at P; exact P.elim
        | some d =>
          have z : fr i env = .ok d (env.set i (some (.fz d))) := by
            unfold fr; rw [e]
            cases c <;> first | exact absurd ⟨_, rfl⟩ hf | (simp only [hd])
          rw [z] at P
          obtain ⟨F', dp, L', m⟩ := L.freeze e hv hd
          exact ⟨v, hv, P F' H _ m L' v dp⟩
theorem ec_mv (i : Nat) {x : Str} (hN : X.N[i]? = some x := by rfl) (hv : Vis X.env.scope x := by first | exact Or.inl rfl | exact Or.inr (Or.inl rfl) | exact Or.inr (Or.inr rfl)) (hd : (x == ("__debug__" : Str)) = false := by decide)
    (hcd : (x == ("__classdict__" : Str)) = false := by decide) : EC X W true (.Name x pos) (mvo i) := by
  refine ⟨_, pe_var hN hv hd hcd, fun F H σ env fp Q L P => ?_⟩
  cases e : env[i]? with
  | none => simp [mvo, e, wpE] at P
  | some o =>
    cases o with
    | none => simp [mvo, e, wpE] at P
    | some c =>
      obtain ⟨v, hv, ow⟩ := L.slot i c e
      simp only [mvo, e] at P
      have hi : i < env.length := lt_of_get e
      have L' : LOk X.K X.mg F H σ (env.set i none) (fpSet fp i []) := by
        refine ⟨L.same, fun j c' q => ?_, fun j q => ?_, fun j k a hjk hj hk => ?_, by rw [List.length_set]; exact L.len, L.tab, L.ntf⟩
        · by_cases ej : j = i
          · subst ej; rw [List.getElem?_set_self hi] at q; cases q
          · rw [List.getElem?_set_ne (Ne.symm ej)] at q
            rw [fpSet_ne ej]
            exact L.slot j c' q
        · by_cases ej : j = i
          · subst ej; rw [fpSet_same]
          · rw [fpSet_ne ej]
            exact L.emp j fun c' => by have := q c'; rwa [List.getElem?_set_ne (Ne.symm ej)] at this
        · by_cases ej : j = i
          · subst ej; rw [fpSet_same] at hj; cases hj
          · rw [fpSet_ne ej] at hj
            by_cases ek : k = i
            · subst ek; rw [fpSet_same] at hk; cases hk
            · rw [fpSet_ne ek] at hk; exact L.dis j k a hjk hj hk
      refine ⟨v, hv, P F H (fpSet fp i []) ⟨Same.refl _, fun _ _ e _ _ => e, fun _ _ e => .inl e, fun a u => ?_, fun _ e => e⟩ L' v ⟨fp i, ow, fun a ha u => ?_, fun a ha => .inl ⟨i, ha⟩⟩⟩
      · rcases U_fpSet u with z | ⟨j, _, z⟩
        · cases z
        · exact .inl ⟨j, z⟩
      · rcases U_fpSet u with z | ⟨j, ej, z⟩
        · cases z
        · exact L.dis j i a ej z ha
/-! ### written values -/
theorem es_int {i j} : ES X W true (.Constant (.int i) j pos) (ret (.int i)) := ⟨_, pe_int, fun F H σ env fp Q L P => P.ret L _ (.int i)⟩
theorem es_bl {i j} : ES X W true (.Constant (.bool i) j pos) (ret (.bool i)) := ⟨_, pe_bl, fun F H σ env fp Q L P => P.ret L _ (.bl i)⟩
theorem es_str {i j} : ES X W true (.Constant (.str i) j pos) (ret (.str i)) := ⟨_, pe_str, fun F H σ env fp Q L P => P.ret L _ (.str i)⟩
theorem es_non {j} : ES X W true (.Constant .none j pos) (ret .none) := ⟨_, pe_non, fun F H σ env fp Q L P => P.ret L _ .non⟩
/-- a global of the module, of plain value -/
theorem es_glob {x : Str} {v : V} {u : Value} {d : D} (hg : Gl X x) (hm : X.mg x = some u) (r : RelV v u) (hd : ∀ F, Dq X.K F v d) (hdb : (x == ("__debug__" : Str)) = false := by decide) : ES X W true (.Name x pos) (ret d) :=
  ⟨_, pe_glob hg hm r hdb, fun F H σ env fp Q L P => P.ret L _ (hd F)⟩

/-! ### operators -/
/-- the second operand, then the operation -/
theorem wpOp {g : D → D → Option Cell} {fb : M D} {F H F1 H1 : Hp} {σ : L2.St} {env1 : LE} {fp fp1 : FP} {Q : VK} {x : V} {d1 : D} {tb : TE}
    (kb : ∀ (F H : Hp) (σ : L2.St) (env : LE) (fp : FP) (Q : VK), LOk X.K X.mg F H σ env fp → wpE X W true F H σ fp (fb env) (fun d _ F' H' _ => ∀ v, Pk X.K F' H' v d → Q v H') → tb σ H Q)
    (L1 : LOk X.K X.mg F1 H1 σ env1 fp1) (hx : Pk X.K F1 H1 x d1) (m1 : Mv p F H fp F1 H1 fp1)
    (P : wpE X W p F1 H1 σ fp1 (bnd fb (fun y => lift (g d1 y)) env1) (fun c _ F' H' fp' => ∀ v, NewC X F H fp F' H' fp' v c → Q v H')) :
    tb σ H1 (fun y H2 => rD X g x y H2 Q) := by
  refine kb F1 H1 σ env1 fp1 _ L1 ((P.bnd.le (fun _ => rfl)).imp fun y env2 F2 H2 fp2 m2 L2' z v2 pk2 => ?_)
  obtain ⟨c, hg, z⟩ := z.lift
  exact ⟨F2, d1, y, c, L2'.same, hx.mono m2, pk2, hg, newV_of L2' (wpE.newC (m1.trans m2.weak) z)⟩
/-- .. the first one frozen -/
theorem wpOpS {g : D → D → Option Cell} {fb : M D} {F H F1 H1 : Hp} {σ : L2.St} {env1 : LE} {fp fp1 : FP} {Q : VK} {x : V} {d1 : D} {tb : TE}
    (kb : ∀ (F H : Hp) (σ : L2.St) (env : LE) (fp : FP) (Q : VK), LOk X.K X.mg F H σ env fp → wpE X W p F H σ fp (fb env) (fun d _ F' H' _ => ∀ v, Pk X.K F' H' v d → Q v H') → tb σ H Q)
    (L1 : LOk X.K X.mg F1 H1 σ env1 fp1) (hx : Dq X.K F1 x d1) (m1 : Mv p F H fp F1 H1 fp1)
    (P : wpE X W p F1 H1 σ fp1 (bnd fb (fun y => lift (g d1 y)) env1) (fun c _ F' H' fp' => ∀ v, NewC X F H fp F' H' fp' v c → Q v H')) :
    tb σ H1 (fun y H2 => rD X g x y H2 Q) := by
  refine kb F1 H1 σ env1 fp1 _ L1 (P.bnd.imp fun y env2 F2 H2 fp2 m2 L2' z v2 pk2 => ?_)
  obtain ⟨c, hg, z⟩ := z.lift
  exact ⟨F2, d1, y, c, L2'.same, .dp (Dq_mono m2.f _ _ hx), pk2, hg, newV_of L2' (wpE.newC (m1.trans m2) z)⟩
theorem ec_op2 {g : D → D → Option Cell} {fa fb : M D} {R : (ta tb : TE) → TE} (hR : ∀ ta tb, R ta tb = tOp (rD X g) ta tb) {ee : Expr} (he : ∀ ta tb, PE X a ta → PE X b tb → PE X ee (R ta tb)) (ha : EP X W p a fa) (hb : EP X W true b fb) : EC X W p ee (op2 g fa fb) := by
  obtain ⟨ta, ha, ka⟩ := ha
  obtain ⟨tb, hb, kb⟩ := hb
  refine ⟨_, he ta tb ha hb, fun F H σ env fp Q L P => ?_⟩
  rw [hR]
  refine ka F H σ env fp _ L (P.bnd.imp fun d1 env1 F1 H1 fp1 m1 L1 z v pk1 => wpOp kb L1 pk1 m1 z)
theorem ec_op2S {g : D → D → Option Cell} {fa fb : M D} {R : (ta tb : TE) → TE} (hR : ∀ ta tb, R ta tb = tOp (rD X g) ta tb) {ee : Expr} (he : ∀ ta tb, PE X a ta → PE X b tb → PE X ee (R ta tb)) (ha : ES X W p a fa) (hb : EP X W p b fb) : EC X W p ee (op2 g fa fb) := by
  obtain ⟨ta, ha, ka⟩ := ha
  obtain ⟨tb, hb, kb⟩ := hb
  refine ⟨_, he ta tb ha hb, fun F H σ env fp Q L P => ?_⟩
  rw [hR]
  refine ka F H σ env fp _ L (P.bnd.imp fun d1 env1 F1 H1 fp1 m1 L1 z v pk1 => wpOpS kb L1 pk1 m1 z)
theorem ec_bin {op : Operator} {g : D → D → Option Cell} {fa fb : M D} (ho : OpR X (binaryOp op) (rD X g)) (ha : EP X W p a fa) (hb : EP X W true b fb) : EC X W p (.BinOp a op b pos) (op2 g fa fb) :=
  ec_op2 (fun _ _ => rfl) (fun _ _ h1 h2 => pe_op ho h1 h2) ha hb
theorem ec_binS {op : Operator} {g : D → D → Option Cell} {fa fb : M D} (ho : OpR X (binaryOp op) (rD X g)) (ha : ES X W p a fa) (hb : EP X W p b fb) : EC X W p (.BinOp a op b pos) (op2 g fa fb) :=
  ec_op2S (fun _ _ => rfl) (fun _ _ h1 h2 => pe_op ho h1 h2) ha hb
theorem ec_cmp {op : CmpOp} {g : D → D → Option Cell} {fa fb : M D} (ho : OpR X (compareOp op) (rD X g)) (ha : EP X W p a fa) (hb : EP X W true b fb) (hm : behindInMarks op b = false := by rfl) : EC X W p (.Compare a [op] [b] pos) (op2 g fa fb) :=
  ec_op2 (fun _ _ => rfl) (fun _ _ h1 h2 => pe_cmpR ho h1 h2 hm) ha hb
theorem ec_cmpS {op : CmpOp} {g : D → D → Option Cell} {fa fb : M D} (ho : OpR X (compareOp op) (rD X g)) (ha : ES X W p a fa) (hb : EP X W p b fb) (hm : behindInMarks op b = false := by rfl) : EC X W p (.Compare a [op] [b] pos) (op2 g fa fb) :=
  ec_op2S (fun _ _ => rfl) (fun _ _ h1 h2 => pe_cmpR ho h1 h2 hm) ha hb
theorem ec_ix {fa fb : M D} (ha : EP X W p a fa) (hb : EP X W true b fb) (hs : PlainIx b := by exact fun _ _ => rfl) : EC X W p (.Subscript a b pos) (op2 dIdx fa fb) :=
  ec_op2 (fun _ _ => rfl) (fun _ _ h1 h2 => pe_ix opD_idx h1 h2 hs) ha hb
theorem ec_ixS {fa fb : M D} (ha : ES X W p a fa) (hb : EP X W p b fb) (hs : PlainIx b := by exact fun _ _ => rfl) : EC X W p (.Subscript a b pos) (op2 dIdx fa fb) :=
  ec_op2S (fun _ _ => rfl) (fun _ _ h1 h2 => pe_ix opD_idx h1 h2 hs) ha hb
/-! ### tests -/
/-- a reading -/
abbrev RdC (X : Cx) (W : WX) (p : Bool) (t : TE) (f : M Cell) : Prop := ∀ (F H : Hp) (σ : L2.St) (env : LE) (fp : FP) (Q : VK), LOk X.K X.mg F H σ env fp →
  wpE X W p F H σ fp (f env) (fun c _ F' H' fp' => ∀ v, NewC X F H fp F' H' fp' v c → Q v H') → t σ H Q
theorem RdC.test {t : TE} {f : M Cell} (k : RdC X W p t f) (F H : Hp) (σ : L2.St) (env : LE) (fp : FP) (Q : Bool → Hp → Prop) (L : LOk X.K X.mg F H σ env fp)
    (P : wpE X W p F H σ fp (bnd f asB env) (fun b _ _ H' _ => Q b H')) : t σ H fun x H' => ∃ k, x = .bl k ∧ Q k H' := by
  refine k F H σ env fp _ L (P.bnd.imp fun c e F' H' fp' m L' z v ⟨l, o, _⟩ => ?_)
  cases c with
  | fz d =>
    cases d with
    | bool k =>
      cases o with
      | fz h => cases h; exact ⟨k, rfl, wpE.ret L' z⟩
    | _ => exact z.elim
  | _ => exact z.elim
theorem et_val {f : M Cell} (h : EC X W p e f) (he : ∀ whole, isTrue e X.env whole = (do let v ← whole; standAt e.pos; holding [v] (truthy v)) := by intro _; rfl) : ET X W p e (bnd f asB) := by
  obtain ⟨t, h, k⟩ := h
  exact ⟨_, pt_val h he, fun F H σ env fp Q L P => RdC.test k F H σ env fp Q L P⟩
theorem et_valD {f : M D} (h : ES X W p e f) (he : ∀ whole, isTrue e X.env whole = (do let v ← whole; standAt e.pos; holding [v] (truthy v)) := by intro _; rfl) : ET X W p e (bnd f asBD) := by
  obtain ⟨t, h, k⟩ := h
  refine ⟨_, pt_val h he, fun F H σ env fp Q L P => ?_⟩
  refine k F H σ env fp _ L (P.bnd.imp fun d e F' H' fp' m L' z v o => ?_)
  cases d with
  | bool k => cases o; exact ⟨k, rfl, wpE.ret L' z⟩
  | _ => exact z.elim
theorem et_cmp {op : CmpOp} {g : D → D → Option Cell} {fa fb : M D} (ho : OpR X (compareOp op) (rD X g)) (ha : EP X W p a fa) (hb : EP X W true b fb) (hm : behindInMarks op b = false := by rfl) : ET X W p (.Compare a [op] [b] pos) (bnd (op2 g fa fb) asB) := by
  obtain ⟨ta, ha, ka⟩ := ha
  obtain ⟨tb, hb, kb⟩ := hb
  refine ⟨_, pt_cmpR ho ha hb hm, fun F H σ env fp Q L P => ?_⟩
  refine RdC.test (t := tOp (rD X g) ta tb) (W := W) (p := p) (f := op2 g fa fb) (fun F H σ env fp Q L P => ka F H σ env fp _ L (P.bnd.imp fun d1 env1 F1 H1 fp1 m1 L1 z v pk1 => wpOp kb L1 pk1 m1 z)) F H σ env fp Q L P
theorem et_cmpS {op : CmpOp} {g : D → D → Option Cell} {fa fb : M D} (ho : OpR X (compareOp op) (rD X g)) (ha : ES X W p a fa) (hb : EP X W p b fb) (hm : behindInMarks op b = false := by rfl) : ET X W p (.Compare a [op] [b] pos) (bnd (op2 g fa fb) asB) := by
  obtain ⟨ta, ha, ka⟩ := ha
  obtain ⟨tb, hb, kb⟩ := hb
  refine ⟨_, pt_cmpR ho ha hb hm, fun F H σ env fp Q L P => ?_⟩
  refine RdC.test (t := tOp (rD X g) ta tb) (W := W) (p := p) (f := op2 g fa fb) (fun F H σ env fp Q L P => ka F H σ env fp _ L (P.bnd.imp fun d1 env1 F1 H1 fp1 m1 L1 z v pk1 => wpOpS kb L1 pk1 m1 z)) F H σ env fp Q L P
theorem EW.et {f : M Bool} (h : EW X W p e f) : ET X W p e f := by
  obtain ⟨t, h, k⟩ := h
  exact ⟨t, h.pt, k⟩
theorem ew_and1 {f : M Bool} (h : ET X W p a f) : EW X W p (.BoolOp .And [a] pos) f := by
  obtain ⟨t, h, k⟩ := h
  exact ⟨t, pw_and1 h, k⟩
theorem ew_or1 {f : M Bool} (h : ET X W p a f) : EW X W p (.BoolOp .Or [a] pos) f := by
  obtain ⟨t, h, k⟩ := h
  exact ⟨t, pw_or1 h, k⟩
theorem ew_and {f g : M Bool} (ha : ET X W p a f) (hb : EW X W p (.BoolOp .And (b :: rest) pos) g) : EW X W p (.BoolOp .And (a :: b :: rest) pos) (mAnd f g) := by
  obtain ⟨t, h, k⟩ := ha
  obtain ⟨t2, h2, k2⟩ := hb
  refine ⟨_, pw_and h h2, fun F H σ env fp Q L P => k F H σ env fp _ L (P.bnd.imp fun c e1 F1 H1 fp1 m1 L1 z => ?_)⟩
  cases c with
  | true => simp only [if_true] at z ⊢; exact k2 F1 H1 σ e1 fp1 _ L1 z
  | false => simp only [Bool.false_eq_true, if_false] at z ⊢; exact z.ret L1
theorem ew_or {f g : M Bool} (ha : ET X W p a f) (hb : EW X W p (.BoolOp .Or (b :: rest) pos) g) : EW X W p (.BoolOp .Or (a :: b :: rest) pos) (mOr f g) := by
  obtain ⟨t, h, k⟩ := ha
  obtain ⟨t2, h2, k2⟩ := hb
  refine ⟨_, pw_or h h2, fun F H σ env fp Q L P => k F H σ env fp _ L (P.bnd.imp fun c e1 F1 H1 fp1 m1 L1 z => ?_)⟩
  cases c with
  | false => simp only [Bool.false_eq_true, if_false] at z ⊢; exact k2 F1 H1 σ e1 fp1 _ L1 z
  | true => simp only [if_true] at z ⊢; exact z.ret L1
theorem et_not {f : M Bool} (h : ET X W p a f) : ET X W p (.UnaryOp .Not a pos) (mNot f) := by
  obtain ⟨t, h, k⟩ := h
  exact ⟨_, pt_not h, fun F H σ env fp Q L P => k F H σ env fp _ L (P.bnd.imp fun c e1 F1 H1 fp1 m1 L1 z => z.ret L1)⟩
/-! ### and, or, not as values, of truth values -/
theorem es_one {op} {f : M D} (h : ES X W p a f) : ES X W p (.BoolOp op [a] pos) f := by
  obtain ⟨t, h, k⟩ := h
  exact ⟨t, pe_one h, k⟩
def vAnd (f g : M D) : M D := bnd (bnd f asBD) fun k => if k = true then g else ret (.bool false)
def vOr (f g : M D) : M D := bnd (bnd f asBD) fun k => if k = true then ret (.bool true) else g
def vNot (f : M D) : M D := bnd (bnd f asBD) fun k => ret (.bool (!k))
theorem asBD_of {c : D} {K : PySem.W.Frag} {F H F' : Hp} {σ : L2.St} {env : LE} {fp : FP} {v : V} {Z : Bool → LE → Hp → Hp → FP → Prop} (o : Dq K F' v c) (L : LOk X.K X.mg F H σ env fp) (h : wpE X W p F H σ fp (asBD c env) Z) : ∃ k, v = .bl k ∧ Z k env F H fp := by
  cases c with
  | bool k => cases o; exact ⟨k, rfl, wpE.ret L h⟩
  | _ => exact h.elim
theorem es_and {f g : M D} (ha : ES X W p a f) (hb : ES X W p (.BoolOp .And (b :: rest) pos) g) : ES X W p (.BoolOp .And (a :: b :: rest) pos) (vAnd f g) := by
  obtain ⟨t, h, k⟩ := ha
  obtain ⟨t2, h2, k2⟩ := hb
  refine ⟨_, pe_and h h2, fun F H σ env fp Q L P => k F H σ env fp _ L (P.bnd.bnd.imp fun c e1 F1 H1 fp1 m1 L1 z v o => ?_)⟩
  obtain ⟨kk, rfl, z⟩ := asBD_of o L1 z
  refine ⟨kk, rfl, ?_⟩
  cases kk with
  | true => simp only [if_true] at z ⊢; exact k2 F1 H1 σ e1 fp1 _ L1 z
  | false => simp only [Bool.false_eq_true, if_false] at z ⊢; exact z.ret L1 _ (.bl false)
theorem es_or {f g : M D} (ha : ES X W p a f) (hb : ES X W p (.BoolOp .Or (b :: rest) pos) g) : ES X W p (.BoolOp .Or (a :: b :: rest) pos) (vOr f g) := by
  obtain ⟨t, h, k⟩ := ha
  obtain ⟨t2, h2, k2⟩ := hb
  refine ⟨_, pe_or h h2, fun F H σ env fp Q L P => k F H σ env fp _ L (P.bnd.bnd.imp fun c e1 F1 H1 fp1 m1 L1 z v o => ?_)⟩
  obtain ⟨kk, rfl, z⟩ := asBD_of o L1 z
  refine ⟨kk, rfl, ?_⟩
  cases kk with
  | false => simp only [Bool.false_eq_true, if_false] at z ⊢; exact k2 F1 H1 σ e1 fp1 _ L1 z
  | true => simp only [if_true] at z ⊢; exact z.ret L1 _ (.bl true)
theorem es_not {f : M D} (ha : ES X W p a f) : ES X W p (.UnaryOp .Not a pos) (vNot f) := by
  obtain ⟨t, h, k⟩ := ha
  refine ⟨_, pe_not h, fun F H σ env fp Q L P => k F H σ env fp _ L (P.bnd.bnd.imp fun c e1 F1 H1 fp1 m1 L1 z v o => ?_)⟩
  obtain ⟨kk, rfl, z⟩ := asBD_of o L1 z
  exact ⟨kk, rfl, z.ret L1 _ (.bl _)⟩
theorem ec_if {f : M Bool} {g h : M Cell} (hc : ET X W p c f) (ha : EC X W p a g) (hb : EC X W p b h) : EC X W p (.IfExp c a b pos) (mIf f g h) := by
  obtain ⟨t, h0, k⟩ := hc
  obtain ⟨t1, h1, k1⟩ := ha
  obtain ⟨t2, h2, k2⟩ := hb
  refine ⟨_, pe_ifExp h0 h1 h2, fun F H σ env fp Q L P => k F H σ env fp _ L (P.bnd.imp fun c e1 F1 H1 fp1 m1 L1 z => ?_)⟩
  cases c with
  | true => simp only [if_true] at z ⊢; exact k1 F1 H1 σ e1 fp1 _ L1 (wpE.newC m1 z)
  | false => simp only [Bool.false_eq_true, if_false] at z ⊢; exact k2 F1 H1 σ e1 fp1 _ L1 (wpE.newC m1 z)
theorem ec_neg {f : M D} (ha : ES X W p a f) : EC X W p (.UnaryOp .USub a pos) (bnd f fun d => bnd (asI d) fun i => ret (.fz (.int (-i)))) := by
  obtain ⟨t, h, k⟩ := ha
  refine ⟨_, pe_un un_neg h, fun F H σ env fp Q L P => k F H σ env fp _ L (P.bnd.imp fun c e1 F1 H1 fp1 m1 L1 z v o => ?_)⟩
  cases c with
  | int i => cases o; exact ⟨i, rfl, (z.bnd.ret L1).ret L1 _ ⟨[], .fz (.int _), (fun _ m => by cases m), (fun _ m => by cases m)⟩⟩
  | _ => exact z.elim
/-! ### displays, arguments -/
theorem ac_nil : AC X W p [] mNil := ⟨_, pa_nil, fun F H σ env fp Q L P => P.ret L [] .nil⟩
theorem ac_cons {f : M D} {g : M (List D)} (ha : ES X W p a f) (hb : AC X W p es g) (hs : starEach (a :: es) X.env = (false, eval a X.env) :: starEach es X.env := by rfl) : AC X W p (a :: es) (mCons f g) := by
  obtain ⟨t, h, k⟩ := ha
  obtain ⟨t2, h2, k2⟩ := hb
  refine ⟨_, pa_cons h h2 hs, fun F H σ env fp Q L P => k F H σ env fp _ L (P.bnd.imp fun d e1 F1 H1 fp1 m1 L1 z v dv => k2 F1 H1 σ e1 fp1 _ L1 (z.bnd.imp fun ds e2 F2 H2 fp2 m2 L2' z vs dvs => ?_))⟩
  exact z.ret L2' _ (.cons (Dq_mono m2.f _ _ dv) dvs)
theorem ap_nil : AP X W p [] mNil := ⟨_, pa_nil, fun F H σ env fp Q L P => P.ret L [] .nil⟩
theorem ap_cons {f : M D} {g : M (List D)} (ha : EP X W p a f) (hb : AP X W true es g) (hs : starEach (a :: es) X.env = (false, eval a X.env) :: starEach es X.env := by rfl) : AP X W p (a :: es) (mCons f g) := by
  obtain ⟨t, h, k⟩ := ha
  obtain ⟨t2, h2, k2⟩ := hb
  refine ⟨_, pa_cons h h2 hs, fun F H σ env fp Q L P => k F H σ env fp _ L (P.bnd.imp fun d e1 F1 H1 fp1 m1 L1 z v dv => k2 F1 H1 σ e1 fp1 _ L1 ((z.bnd.le (fun _ => rfl)).imp fun ds e2 F2 H2 fp2 m2 L2' z vs dvs => ?_))⟩
  exact z.ret L2' _ (.cons (dv.mono m2) dvs)
theorem AC.ap {f : M (List D)} (h : AC X W p es f) : AP X W p es f := by
  obtain ⟨t, h, k⟩ := h
  refine ⟨t, h, fun F H σ env fp Q L P => k F H σ env fp _ L (P.imp fun ds e1 F1 H1 fp1 m1 L1 z vs dvs => z vs ?_)⟩
  clear z
  induction ds generalizing vs with
  | nil => cases dvs; exact .nil
  | cons d ds ih =>
    cases dvs with
    | cons h1 h2 => exact .cons (.dp h1) (ih _ h2)
theorem es_tup {x1} {f : M (List D)} (h : AC X W p es f) : ES X W p (.Tuple es x1 pos) (mTup f) := by
  obtain ⟨t, h, k⟩ := h
  refine ⟨_, pe_tupZ h, fun F H σ env fp Q L P => k F H σ env fp _ L (P.bnd.imp fun ds e1 F1 H1 fp1 m1 L1 z vs dvs => ?_)⟩
  by_cases hz : ds.length ≤ 16777216
  · rw [if_pos hz] at z
    refine ⟨by rw [dvs.len]; exact hz, fun a o ha hd => ?_⟩
    obtain ⟨L2', m2⟩ := L1.newF (o := .frz o (.tup vs)) ha (fun _ z => by cases z)
    exact z _ _ _ m2.weak L2' _ (.tup (TupN.new hd) (DqAll_mono m2.f _ _ dvs))
  · rw [if_neg hz] at z; exact z.elim
theorem ec_lst {f : M (List D)} (h : AC X W p es f) : EC X W p (.List es pos) (mLst f) := by
  obtain ⟨t, h, k⟩ := h
  refine ⟨_, pe_lst h, fun F H σ env fp Q L P => k F H σ env fp _ L (P.bnd.imp fun ds e1 F1 H1 fp1 m1 L1 z vs dvs => ?_)⟩
  by_cases hz : ds.length ≤ 16777216
  · rw [if_pos hz] at z
    refine ⟨by rw [dvs.len]; exact hz, fun a ha => ?_⟩
    exact (newV_of L1 (wpE.newC m1 z)).ow L1.same dvs ha
  · rw [if_neg hz] at z; exact z.elim
/-! ### calls of built-ins -/
def rDs (X : Cx) (g : List D → Option Cell) : List V → Hp → VK → Prop := fun vs H Q => ∃ F ds c, Same F H ∧ PkAll X.K F H vs ds ∧ g ds = some c ∧ NewV X F H c Q
theorem rd_call {g : List D → Option Cell} {t : TA} {f : M (List D)}
    (k : ∀ (F H : Hp) (σ : L2.St) (env : LE) (fp : FP) (Q : List V → Hp → Prop), LOk X.K X.mg F H σ env fp → wpE X W p F H σ fp (f env) (fun ds _ F' H' _ => ∀ vs, PkAll X.K F' H' vs ds → Q vs H') → t σ H Q) :
    RdC X W p (tCB (rDs X g) t) (opL g f) := fun F H σ env fp Q L P => by
  refine k F H σ env fp _ L (P.bnd.imp fun ds e1 F1 H1 fp1 m1 L1 z vs dvs => ?_)
  obtain ⟨c, hg, z⟩ := z.lift
  exact ⟨F1, ds, c, L1.same, dvs, hg, newV_of L1 (wpE.newC m1 z)⟩
theorem ec_callB {g : List D → Option Cell} {x : Str} {id : String} {p0 : Pos} {f : M (List D)} (hc : CallR X (.builtin id) (rDs X g)) (hm : X.mg x = none) (hv : bootBuiltins x = some (.builtin id)) (ha : AP X W p (e :: es) f) (hg : Gl X x := by rfl) (hn : x ≠ "__name__" := by decide) (hdb : (x == ("__debug__" : Str)) = false := by decide)
    (he : starEach (e :: es) X.env = (false, eval e X.env) :: starEach es X.env := by rfl) (hpl : (backTo pos (starEach es X.env)).any (·.1) = false := by rfl) : EC X W p (.Call (.Name x p0) (e :: es) [] pos) (opL g f) := by
  obtain ⟨t, h, k⟩ := ha
  exact ⟨_, pe_callB hc hg hm hv h hn hdb he hpl, rd_call k⟩
theorem ec_callTy {g : List D → Option Cell} {x : Str} {T : String} {p0 : Pos} {f : M (List D)} (hc : CallR X (.type T) (rDs X g)) (hm : X.mg x = none) (hv : bootBuiltins x = some (.type T)) (ha : AP X W p (e :: es) f) (hg : Gl X x := by rfl) (hn : x ≠ "__name__" := by decide) (hdb : (x == ("__debug__" : Str)) = false := by decide)
    (he : starEach (e :: es) X.env = (false, eval e X.env) :: starEach es X.env := by rfl) (hpl : (backTo pos (starEach es X.env)).any (·.1) = false := by rfl) : EC X W p (.Call (.Name x p0) (e :: es) [] pos) (opL g f) := by
  obtain ⟨t, h, k⟩ := ha
  exact ⟨_, pe_callTy hc hg hm hv h hn hdb he hpl, rd_call k⟩
end
end DL

set_option Elab.async false
set_option linter.all false
set_option maxRecDepth 100000
set_option maxHeartbeats 4000000
/-! DL, part e: slices, chains, built-in calls, methods of data. -/
namespace DL
open PySem PySem.Spec L2
section
variable {X : Cx} {W : WX} {p q : Bool} {e a b c o : Expr} {es rest : List Expr} {pos : Pos}
/-! ### slices -/
def EO (X : Cx) (W : WX) (p : Bool) (e : Option Expr) (f : M (Option Int)) : Prop := ∃ t, PO X e t ∧ ∀ (F H : Hp) (σ : L2.St) (env : LE) (fp : FP) (Q : Option Int → Hp → Prop), LOk X.K X.mg F H σ env fp →
  wpE X W p F H σ fp (f env) (fun i _ _ H' _ => Q i H') → t σ H Q
theorem eo_none : EO X W p none (ret none) := ⟨_, po_none, fun F H σ env fp Q L P => P.ret L⟩
theorem eo_some {f : M D} (h : EP X W p e f) : EO X W p (some e) (mPart f) := by
  obtain ⟨t, h, k⟩ := h
  refine ⟨_, po_some h, fun F H σ env fp Q L P => k F H σ env fp _ L (P.bnd.imp fun d e1 F1 H1 fp1 m1 L1 z v pv => ?_)⟩
  cases d with
  | int i => exact ⟨i, pv.int, (z.bnd.ret L1).ret L1⟩
  | _ => exact z.elim
def rDS (X : Cx) : V → Option Int → Option Int → Hp → VK → Prop := fun x lo hi H Q => ∃ F d c, Same F H ∧ Pk X.K F H x d ∧ dSlice d lo hi = some c ∧ NewV X F H c Q
theorem cutV_dq {K : PySem.W.Frag} {H : Hp} {vs : List V} {ds : List D} {lo hi : Option Int} (h : DqAll K H vs ds) : DqAll K H (cutV vs lo hi) (cutD ds lo hi) := by
  unfold cutV cutD
  rw [h.len]
  exact (h.drop _).take _
theorem sl_D : SlR X (rDS X) := by
  intro pins s σ H x v vl vu lo hi sl Q I rx hs pl pu ⟨F, d, c, sm, h1, hg, q⟩
  cases d <;> simp only [dSlice, reduceCtorEq] at hg
  case list ds =>
    cases hg
    obtain ⟨a, vs, rfl, hl, al⟩ := h1.list sm
    exact sl_list pins s σ H _ v vl vu lo hi sl Q I rx hs pl pu ⟨a, vs, rfl, hl, fun p hp => q.ow sm (cutV_dq al) hp⟩
  case tuple ds =>
    cases hg
    obtain ⟨a, vs, rfl, hl, al⟩ := h1.tuple sm
    refine sl_tupZ pins s σ H _ v vl vu lo hi sl Q I rx hs pl pu ⟨a, vs, rfl, hl.sq, fun hw => ?_, fun _ => q.tup sm (cutV_dq al)⟩
    have e : cutD ds lo hi = ds := by
      rw [al.len] at hw
      unfold cutD
      rw [hw.1, hw.2, List.drop_zero, Nat.sub_zero, List.take_length]
    rw [e] at q
    cases h1 with
    | dp h1 => exact q.fz sm h1
  case str z =>
    split at hg
    · cases hg
      exact sl_str pins s σ H _ v vl vu lo hi sl Q I rx hs pl pu ⟨z, h1.str, by assumption, q.fz sm (.str _)⟩
    · cases hg
theorem ec_slice {lo hi : Option Expr} {p2 : Pos} {fe : M D} {fl fh : M (Option Int)} (he : EP X W p e fe) (hl : EO X W true lo fl) (hh : EO X W true hi fh) : EC X W p (.Subscript e (.Slice lo hi none p2) pos) (opS fe fl fh) := by
  obtain ⟨t, h, k⟩ := he
  obtain ⟨t1, h1, k1⟩ := hl
  obtain ⟨t2, h2, k2⟩ := hh
  refine ⟨_, pe_slice sl_D h h1 h2, fun F H σ env fp Q L P => k F H σ env fp _ L (P.bnd.imp fun d e1 F1 H1 fp1 m1 L1 z v dv => k1 F1 H1 σ e1 fp1 _ L1 ((z.bnd.le (fun _ => rfl)).imp fun l e2 F2 H2 fp2 m2 L2' z => k2 F2 H2 σ e2 fp2 _ L2' ((z.bnd.le (fun _ => rfl)).imp fun u e3 F3 H3 fp3 m3 L3 z => ?_)))⟩
  obtain ⟨c, hg, z⟩ := z.lift
  exact ⟨F3, d, c, L3.same, (dv.mono m2).mono m3, hg, newV_of L3 (wpE.newC (m1.trans (m2.weak.trans m3.weak)) z)⟩
/-! ### chains -/
def opC (g g' : D → D → Option Cell) (fa fb fc : M D) : M Cell := bnd fa fun x => bnd fb fun y => bnd (lift (g x y)) fun c => bnd (asB c) fun k => if k = true then bnd fc fun z => lift (g' y z) else ret (.fz (.bool false))
theorem rd_chain {g g' : D → D → Option Cell} {fa fb fc : M D} {ta tb tc : TE}
    (ka : ∀ (F H : Hp) (σ : L2.St) (env : LE) (fp : FP) (Q : VK), LOk X.K X.mg F H σ env fp → wpE X W p F H σ fp (fa env) (fun d _ F' H' _ => ∀ v, Pk X.K F' H' v d → Q v H') → ta σ H Q)
    (kb : ∀ (F H : Hp) (σ : L2.St) (env : LE) (fp : FP) (Q : VK), LOk X.K X.mg F H σ env fp → wpE X W true F H σ fp (fb env) (fun d _ F' H' _ => ∀ v, Pk X.K F' H' v d → Q v H') → tb σ H Q)
    (kc : ∀ (F H : Hp) (σ : L2.St) (env : LE) (fp : FP) (Q : VK), LOk X.K X.mg F H σ env fp → wpE X W true F H σ fp (fc env) (fun d _ F' H' _ => ∀ v, Pk X.K F' H' v d → Q v H') → tc σ H Q) :
    RdC X W p (tChain (rD X g) (rD X g') ta tb tc) (opC g g' fa fb fc) := fun F H σ env fp Q L P => by
  refine ka F H σ env fp _ L (P.bnd.imp fun d1 e1 F1 H1 fp1 m1 L1 z v pv => kb F1 H1 σ e1 fp1 _ L1 ((z.bnd.le (fun _ => rfl)).imp fun d2 e2 F2 H2 fp2 m2 L2' z w pw => ?_))
  obtain ⟨c, hg, z⟩ := z.bnd.lift
  refine ⟨F2, d1, d2, c, L2'.same, pv.mono m2, pw, hg, fun r F3 H3 l n ts o fresh => ?_⟩
  cases c with
  | fz d =>
    cases d with
    | bool kk =>
      cases o with
      | fz h =>
        cases h
        obtain ⟨L3, m3⟩ := n.mv (L2'.tab.step ts) L2'
        have z := (z.ret L2').bnd.ret L2'
        refine ⟨kk, rfl, ?_⟩
        have mm : Mv p F H fp F3 H3 fp2 := m1.trans (m2.weak.trans m3.weak)
        cases kk with
        | true =>
          simp only [if_true] at z ⊢
          exact wpOp kc L3 (pw.mono m3) mm (z.from m3.weak)
        | false =>
          simp only [Bool.false_eq_true, if_false] at z ⊢
          exact (z.from m3.weak).ret L3 _ ⟨[], .fz (.bl _), (fun _ m => by cases m), (fun _ m => by cases m)⟩
    | _ => exact (z.ret L2').elim
  | _ => exact (z.ret L2').elim
theorem ec_chain {op op' : CmpOp} {g g' : D → D → Option Cell} {fa fb fc : M D} (ho : OpR X (compareOp op) (rD X g)) (ho' : OpR X (compareOp op') (rD X g')) (ha : EP X W p a fa) (hb : EP X W true b fb) (hc : EP X W true c fc)
    (hm : lastMarks [op, op'] [b, c] = false := by with_unfolding_all rfl) : EC X W p (.Compare a [op, op'] [b, c] pos) (opC g g' fa fb fc) := by
  obtain ⟨ta, ha, ka⟩ := ha
  obtain ⟨tb, hb, kb⟩ := hb
  obtain ⟨tc, hc, kc⟩ := hc
  exact ⟨_, pe_chain ho ho' ha hb hc hm, rd_chain ka kb kc⟩
theorem et_chain {op op' : CmpOp} {g g' : D → D → Option Cell} {fa fb fc : M D} (ho : OpR X (compareOp op) (rD X g)) (ho' : OpR X (compareOp op') (rD X g')) (ha : EP X W p a fa) (hb : EP X W true b fb) (hc : EP X W true c fc)
    (hm : lastMarks [op, op'] [b, c] = false := by with_unfolding_all rfl) : ET X W p (.Compare a [op, op'] [b, c] pos) (bnd (opC g g' fa fb fc) asB) := by
  obtain ⟨ta, ha, ka⟩ := ha
  obtain ⟨tb, hb, kb⟩ := hb
  obtain ⟨tc, hc, kc⟩ := hc
  exact ⟨_, pt_chain ho ho' ha hb hc hm, RdC.test (rd_chain ka kb kc)⟩
/-! ### built-in functions -/
def lenD : D → Option Int
  | .list ds => some ds.length
  | .tuple ds => some ds.length
  | .str z => if z.length ≤ 16777216 then some z.length else none
  | _ => none
def bLen : List D → Option Cell
  | [d] => (lenD d).map fun n => .fz (.int n)
  | _ => none
theorem PkAll.one {K : PySem.W.Frag} {F H : Hp} {vs : List V} {d : D} (h : PkAll K F H vs [d]) : ∃ v, vs = [v] ∧ Pk K F H v d := by
  cases h with
  | cons h1 h2 => cases h2; exact ⟨_, rfl, h1⟩
theorem PkAll.two {K : PySem.W.Frag} {F H : Hp} {vs : List V} {d e : D} (h : PkAll K F H vs [d, e]) : ∃ v w, vs = [v, w] ∧ Pk K F H v d ∧ Pk K F H w e := by
  cases h with
  | cons h1 h2 =>
    obtain ⟨w, rfl, h3⟩ := h2.one
    exact ⟨_, _, rfl, h1, h3⟩
theorem cr_len : CallR X (.builtin "len") (rDs X bLen) := by
  intro pins s σ H xs us Q I r ⟨F, ds, c, sm, h, hg, q⟩
  cases h with
  | nil => simp [bLen] at hg
  | cons h1 h2 =>
    cases h2 with
    | cons _ _ => simp [bLen] at hg
    | nil =>
      rename_i v d
      cases d <;> simp [bLen, lenD] at hg
      case list ds =>
        subst hg
        obtain ⟨a, vs, rfl, hl, al⟩ := h1.list sm
        refine call_len_seq pins s σ H _ us Q I r ⟨a, vs, rfl, .inl hl, ?_⟩
        rw [al.len]; exact q.fz sm (.int _)
      case tuple ds =>
        subst hg
        obtain ⟨a, vs, rfl, hl, al⟩ := h1.tuple sm
        refine call_len_seq pins s σ H _ us Q I r ⟨a, vs, rfl, .inr hl.sq, ?_⟩
        rw [al.len]; exact q.fz sm (.int _)
      case str z =>
        by_cases hz : z.length ≤ 16777216
        · simp [hz] at hg
          subst hg
          rw [h1.str] at r
          exact call_len_str pins s σ H _ us Q I r ⟨z, rfl, hz, q.fz sm (.int _)⟩
        · simp [hz] at hg
/-- int of an int, of a truth value -/
def bInt : List D → Option Cell
  | [.int i] => some (.fz (.int i))
  | [.bool k] => some (.fz (.int (if k then 1 else 0)))
  | _ => none
theorem cr_int : CallR X (.type "int") (rDs X bInt) := by
  intro pins s σ H xs us Q I r ⟨F, ds, c, sm, h, hg, q⟩
  cases h with
  | nil => simp [bInt] at hg
  | cons h1 h2 =>
    cases h2 with
    | cons _ _ => simp [bInt] at hg
    | nil =>
      rename_i v d
      cases d <;> simp [bInt] at hg
      case int i =>
        subst hg
        exact call_int1 pins s σ H _ us Q I r (.inl ⟨i, by rw [h1.int], q.fz sm (.int _)⟩)
      case bool i =>
        subst hg
        exact call_int1 pins s σ H _ us Q I r (.inr ⟨i, by rw [h1.bool], q.fz sm (.int _)⟩)
def bList : List D → Option Cell
  | [.list ds] => some (.ow ds)
  | [.tuple ds] => some (.ow ds)
  | _ => none
theorem cr_list : CallR X (.type "list") (rDs X bList) := by
  intro pins s σ H xs us Q I r ⟨F, ds, c, sm, h, hg, q⟩
  cases h with
  | nil => simp [bList] at hg
  | cons h1 h2 =>
    cases h2 with
    | cons _ _ => simp [bList] at hg
    | nil =>
      rename_i v d
      cases d <;> simp [bList] at hg
      case list ds =>
        subst hg
        obtain ⟨a, vs, rfl, hl, al⟩ := h1.list sm
        exact call_list_of pins s σ H _ us Q I r ⟨a, vs, rfl, .inl hl, fun l hl => q.ow sm al hl⟩
      case tuple ds =>
        subst hg
        obtain ⟨a, vs, rfl, hl, al⟩ := h1.tuple sm
        exact call_list_of pins s σ H _ us Q I r ⟨a, vs, rfl, .inr hl.sq, fun l hl => q.ow sm al hl⟩
def bTuple : List D → Option Cell
  | [.list ds] => some (.fz (.tuple ds))
  | [.tuple ds] => some (.fz (.tuple ds))
  | _ => none
theorem cr_tuple : CallR X (.type "tuple") (rDs X bTuple) := by
  intro pins s σ H xs us Q I r ⟨F, ds, c, sm, h, hg, q⟩
  cases h with
  | nil => simp [bTuple] at hg
  | cons h1 h2 =>
    cases h2 with
    | cons _ _ => simp [bTuple] at hg
    | nil =>
      rename_i v d
      cases d <;> simp [bTuple] at hg
      case list ds =>
        subst hg
        obtain ⟨a, vs, rfl, hl, al⟩ := h1.list sm
        exact call_tupleZ pins s σ H _ us Q I r ⟨a, vs, rfl, .inl ⟨hl, q.tup sm al⟩⟩
      case tuple ds =>
        subst hg
        obtain ⟨a, vs, rfl, hl, al⟩ := h1.tuple sm
        refine call_tupleZ pins s σ H _ us Q I r ⟨a, vs, rfl, .inr ⟨hl.sq, ?_⟩⟩
        cases h1 with
        | dp h1 => exact q.fz sm h1
def bMax2 : List D → Option Cell
  | [.int i, .int j] => some (.fz (.int (if j > i then j else i)))
  | _ => none
def bMin2 : List D → Option Cell
  | [.int i, .int j] => some (.fz (.int (if j < i then j else i)))
  | _ => none
theorem cr_max2 (hc : X.calm = true) : CallR X (.builtin "max") (rDs X bMax2) := by
  intro pins s σ H xs us Q I r ⟨F, ds, c, sm, h, hg, q⟩
  unfold bMax2 at hg
  split at hg
  · cases hg
    obtain ⟨v, w, rfl, h1, h2⟩ := h.two
    exact call_max2 hc pins s σ H _ us Q I r ⟨_, _, by rw [h1.int, h2.int], q.fz sm (.int _)⟩
  · cases hg
theorem cr_min2 (hc : X.calm = true) : CallR X (.builtin "min") (rDs X bMin2) := by
  intro pins s σ H xs us Q I r ⟨F, ds, c, sm, h, hg, q⟩
  unfold bMin2 at hg
  split at hg
  · cases hg
    obtain ⟨v, w, rfl, h1, h2⟩ := h.two
    exact call_min2 hc pins s σ H _ us Q I r ⟨_, _, by rw [h1.int, h2.int], q.fz sm (.int _)⟩
  · cases hg
theorem intsOf_eq : ∀ {ds : List D} {ns : List Int}, intsOf ds = some ns → ds = ns.map PyData.int
  | [], ns, h => by simp [intsOf] at h; subst h; rfl
  | .int i :: r, ns, h => by
    simp only [intsOf] at h
    cases e : intsOf r with
    | none => rw [e] at h; cases h
    | some ms => rw [e] at h; simp at h; subst h; rw [intsOf_eq e]; rfl
  | .none :: r, ns, h => by simp [intsOf] at h
  | .bool _ :: r, ns, h => by simp [intsOf] at h
  | .str _ :: r, ns, h => by simp [intsOf] at h
  | .list _ :: r, ns, h => by simp [intsOf] at h
  | .tuple _ :: r, ns, h => by simp [intsOf] at h
  | .dict _ :: r, ns, h => by simp [intsOf] at h
theorem intsOf_map : ∀ ns : List Int, intsOf (ns.map PyData.int) = some ns
  | [] => rfl
  | n :: ns => by show (intsOf (ns.map PyData.int)).map (n :: ·) = _; rw [intsOf_map ns]; rfl
def boolsOf : List D → Option (List Bool)
  | [] => some []
  | .bool i :: r => (boolsOf r).map (i :: ·)
  | _ => none
theorem boolsOf_eq : ∀ {ds : List D} {ns : List Bool}, boolsOf ds = some ns → ds = ns.map PyData.bool
  | [], ns, h => by simp [boolsOf] at h; subst h; rfl
  | .bool i :: r, ns, h => by
    simp only [boolsOf] at h
    cases e : boolsOf r with
    | none => rw [e] at h; cases h
    | some ms => rw [e] at h; simp at h; subst h; rw [boolsOf_eq e]; rfl
  | .none :: r, ns, h => by simp [boolsOf] at h
  | .int _ :: r, ns, h => by simp [boolsOf] at h
  | .str _ :: r, ns, h => by simp [boolsOf] at h
  | .list _ :: r, ns, h => by simp [boolsOf] at h
  | .tuple _ :: r, ns, h => by simp [boolsOf] at h
  | .dict _ :: r, ns, h => by simp [boolsOf] at h
theorem boolsOf_map : ∀ ns : List Bool, boolsOf (ns.map PyData.bool) = some ns
  | [] => rfl
  | n :: ns => by show (boolsOf (ns.map PyData.bool)).map (n :: ·) = _; rw [boolsOf_map ns]; rfl
def strsOf : List D → Option (List Str)
  | [] => some []
  | .str i :: r => (strsOf r).map (i :: ·)
  | _ => none
theorem strsOf_eq : ∀ {ds : List D} {ns : List Str}, strsOf ds = some ns → ds = ns.map PyData.str
  | [], ns, h => by simp [strsOf] at h; subst h; rfl
  | .str i :: r, ns, h => by
    simp only [strsOf] at h
    cases e : strsOf r with
    | none => rw [e] at h; cases h
    | some ms => rw [e] at h; simp at h; subst h; rw [strsOf_eq e]; rfl
  | .none :: r, ns, h => by simp [strsOf] at h
  | .int _ :: r, ns, h => by simp [strsOf] at h
  | .bool _ :: r, ns, h => by simp [strsOf] at h
  | .list _ :: r, ns, h => by simp [strsOf] at h
  | .tuple _ :: r, ns, h => by simp [strsOf] at h
  | .dict _ :: r, ns, h => by simp [strsOf] at h
theorem strsOf_map : ∀ ns : List Str, strsOf (ns.map PyData.str) = some ns
  | [] => rfl
  | n :: ns => by show (strsOf (ns.map PyData.str)).map (n :: ·) = _; rw [strsOf_map ns]; rfl
def bAll : List D → Option Cell
  | [.list ds] => (boolsOf ds).map fun bs => .fz (.bool (bs.all id))
  | _ => none
def bSum : List D → Option Cell
  | [.list ds] => (intsOf ds).map fun bs => .fz (.int bs.sum)
  | _ => none
/-- a greatest, a least one -/
def maxI : List Int → Int
  | [] => 0
  | [x] => x
  | x :: r => max x (maxI r)
def minI : List Int → Int
  | [] => 0
  | [x] => x
  | x :: r => min x (minI r)
theorem maxI_is : ∀ {ns : List Int} {m : Int}, m ∈ ns → (∀ y, y ∈ ns → y ≤ m) → m = maxI ns
  | [x], m, h, _ => by simpa [maxI] using h
  | x :: y :: r, m, h, k => by
    show m = max x (maxI (y :: r))
    rcases List.mem_cons.mp h with e | h'
    · subst e
      have : maxI (y :: r) ∈ y :: r := by
        clear h k
        induction r generalizing y with
        | nil => simp [maxI]
        | cons z r ih =>
          show max y (maxI (z :: r)) ∈ _
          rcases Int.le_total y (maxI (z :: r)) with q | q
          · rw [Int.max_eq_right q]; exact List.mem_cons_of_mem _ (ih z)
          · rw [Int.max_eq_left q]; exact List.mem_cons_self
      have := k _ (List.mem_cons_of_mem _ this)
      omega
    · have e := maxI_is h' (fun z hz => k z (List.mem_cons_of_mem _ hz))
      rw [← e]
      have := k x List.mem_cons_self
      omega
theorem minI_is : ∀ {ns : List Int} {m : Int}, m ∈ ns → (∀ y, y ∈ ns → m ≤ y) → m = minI ns
  | [x], m, h, _ => by simpa [minI] using h
  | x :: y :: r, m, h, k => by
    show m = min x (minI (y :: r))
    rcases List.mem_cons.mp h with e | h'
    · subst e
      have : minI (y :: r) ∈ y :: r := by
        clear h k
        induction r generalizing y with
        | nil => simp [minI]
        | cons z r ih =>
          show min y (minI (z :: r)) ∈ _
          rcases Int.le_total y (minI (z :: r)) with q | q
          · rw [Int.min_eq_left q]; exact List.mem_cons_self
          · rw [Int.min_eq_right q]; exact List.mem_cons_of_mem _ (ih z)
      have := k _ (List.mem_cons_of_mem _ this)
      omega
    · have e := minI_is h' (fun z hz => k z (List.mem_cons_of_mem _ hz))
      rw [← e]
      have := k x List.mem_cons_self
      omega
def bMax : List D → Option Cell
  | [.list ds] => match intsOf ds with
    | some (n :: ns) => some (.fz (.int (maxI (n :: ns))))
    | _ => none
  | _ => none
def bMin : List D → Option Cell
  | [.list ds] => match intsOf ds with
    | some (n :: ns) => some (.fz (.int (minI (n :: ns))))
    | _ => none
  | _ => none
theorem cr_allD (hc : X.calm = true) : CallR X (.builtin "all") (rDs X bAll) := by
  intro pins s σ H xs us Q I r ⟨F, ds, c, sm, h, hg, q⟩
  unfold bAll at hg
  split at hg
  · obtain ⟨v, rfl, h1⟩ := h.one
    rename_i ds
    cases e : boolsOf ds with
    | none => rw [e] at hg; cases hg
    | some bs =>
      rw [e] at hg; cases hg
      obtain ⟨a, vs, rfl, hl, al⟩ := h1.list sm
      rw [boolsOf_eq e] at al
      have ev := al.ofBools
      subst ev
      exact cr_all hc pins s σ H _ us Q I r ⟨a, bs, rfl, hl, q.fz sm (.bl _)⟩
  · cases hg
theorem cr_sumD (hc : X.calm = true) : CallR X (.builtin "sum") (rDs X bSum) := by
  intro pins s σ H xs us Q I r ⟨F, ds, c, sm, h, hg, q⟩
  unfold bSum at hg
  split at hg
  · obtain ⟨v, rfl, h1⟩ := h.one
    rename_i ds
    cases e : intsOf ds with
    | none => rw [e] at hg; cases hg
    | some bs =>
      rw [e] at hg; cases hg
      obtain ⟨a, vs, rfl, hl, al⟩ := h1.list sm
      rw [intsOf_eq e] at al
      have ev := al.ofInts
      subst ev
      exact cr_sum hc pins s σ H _ us Q I r ⟨a, bs, rfl, hl, q.fz sm (.int _)⟩
  · cases hg
theorem cr_maxD (hc : X.calm = true) : CallR X (.builtin "max") (rDs X bMax) := by
  intro pins s σ H xs us Q I r ⟨F, ds, c, sm, h, hg, q⟩
  unfold bMax at hg
  split at hg
  · obtain ⟨v, rfl, h1⟩ := h.one
    rename_i ds
    split at hg
    · rename_i n ns e
      cases hg
      obtain ⟨a, vs, rfl, hl, al⟩ := h1.list sm
      rw [intsOf_eq e] at al
      have ev := al.ofInts
      subst ev
      refine cr_max hc pins s σ H _ us Q I r ⟨a, _, rfl, hl, by simp, fun m h1 h2 => ?_⟩
      rw [maxI_is h1 h2]
      exact q.fz sm (.int _)
    · cases hg
  · cases hg
theorem cr_minD (hc : X.calm = true) : CallR X (.builtin "min") (rDs X bMin) := by
  intro pins s σ H xs us Q I r ⟨F, ds, c, sm, h, hg, q⟩
  unfold bMin at hg
  split at hg
  · obtain ⟨v, rfl, h1⟩ := h.one
    rename_i ds
    split at hg
    · rename_i n ns e
      cases hg
      obtain ⟨a, vs, rfl, hl, al⟩ := h1.list sm
      rw [intsOf_eq e] at al
      have ev := al.ofInts
      subst ev
      refine cr_min hc pins s σ H _ us Q I r ⟨a, _, rfl, hl, by simp, fun m h1 h2 => ?_⟩
      rw [minI_is h1 h2]
      exact q.fz sm (.int _)
    · cases hg
  · cases hg
/-! ### isinstance -/
/-- the name of a value's type -/
def tyName : D → String
  | .none => "NoneType"
  | .bool _ => "bool"
  | .int _ => "int"
  | .str _ => "str"
  | .list _ => "list"
  | .tuple _ => "tuple"
  | .dict _ => "dict"
end
end DL

set_option Elab.async false
set_option linter.all false
set_option maxRecDepth 100000
set_option maxHeartbeats 4000000
/-! DL, part f: isinstance, methods of texts, lists, tuples that change nothing. -/
namespace DL
open PySem PySem.Spec L2
def isiN (T n : String) : Bool := (n == T) || (T == "int" && n == "bool")
def isiD (T : String) (d : D) : Bool := isiN T (tyName d)
def asS (d : D) : M Str := match d with
  | .str z => ret z
  | _ => stuck
def asL (d : D) : M (List D) := match d with
  | .list z => ret z
  | _ => stuck
def asT (d : D) : M (List D) := match d with
  | .tuple z => ret z
  | _ => stuck
def isiM (T : String) (f : M D) : M Cell := bnd f fun d => ret (.fz (.bool (isiD T d)))
/-- a method of a text, with one argument; of a list, a tuple -/
def opSt (g : Str → D → Option Cell) (fo f : M D) : M Cell := bnd fo fun d => bnd (asS d) fun a => bnd f fun x => lift (g a x)
def opSt0 (g : Str → Option Cell) (fo : M D) : M Cell := bnd fo fun d => bnd (asS d) fun a => lift (g a)
def opLi (g : List D → D → Option Cell) (fo f : M D) : M Cell := bnd fo fun d => bnd (asL d) fun a => bnd f fun x => lift (g a x)
def opTu (g : List D → D → Option Cell) (fo f : M D) : M Cell := bnd fo fun d => bnd (asT d) fun a => bnd f fun x => lift (g a x)
def sJoin (a : Str) : D → Option Cell
  | .list ds => match strsOf ds with
    | some ys => if (ys.map (·.length)).sum + ys.length * a.length ≤ 16777216 then some (.fz (.str (Txt.join a ys))) else none
    | none => none
  | .tuple ds => match strsOf ds with
    | some ys => if (ys.map (·.length)).sum + ys.length * a.length ≤ 16777216 then some (.fz (.str (Txt.join a ys))) else none
    | none => none
  | _ => none
def sSplit (a : Str) : D → Option Cell
  | .str b => if (b.length == 0) = false ∧ a.length + 2 ≤ 16777216 then some (.ow ((Txt.split a b).map .str)) else none
  | _ => none
/-- the first place of an equal item -/
def idxD (d : D) : List D → Option Nat
  | [] => none
  | z :: r => if PyData.eqv z d = true then some 0 else (idxD d r).map (· + 1)
def lIndex (ds : List D) (d : D) : Option Cell := if SeqAt.shaped (.list ds) = true ∧ SeqAt.shaped d = true then (idxD d ds).map fun (j : Nat) => .fz (.int (j : Int)) else none
def lCount (ds : List D) : D → Option Cell
  | .int k => (intsOf ds).map fun ns => .fz (.int (ns.count k))
  | _ => none
def idxS (z : Str) : List Str → Option Nat
  | [] => none
  | y :: r => if y = z then some 0 else (idxS z r).map (· + 1)
def tIndex (ds : List D) : D → Option Cell
  | .str z => match strsOf ds with
    | some ys => (idxS z ys).map fun (j : Nat) => .fz (.int (j : Int))
    | none => none
  | _ => none
theorem idxD_is : ∀ {ds : List D} {d : D} {j : Nat}, idxD d ds = some j → ∃ z, ds[j]? = some z ∧ PyData.eqv z d = true ∧ ∀ (m : Nat) (z' : D), m < j → ds[m]? = some z' → PyData.eqv z' d = false
  | z :: r, d, j, h => by
    unfold idxD at h
    split at h
    · cases h
      exact ⟨z, rfl, by assumption, fun m z' hm => absurd hm (Nat.not_lt_zero _)⟩
    · rename_i hz
      cases e : idxD d r with
      | none => rw [e] at h; cases h
      | some i =>
        rw [e] at h; cases h
        obtain ⟨w, h1, h2, h3⟩ := idxD_is e
        refine ⟨w, h1, h2, fun m z' hm he => ?_⟩
        cases m with
        | zero => simp at he; subst he; simpa using hz
        | succ m => exact h3 m z' (Nat.lt_of_succ_lt_succ hm) (by simpa using he)
theorem idxS_is : ∀ {ds : List Str} {d : Str} {j : Nat}, idxS d ds = some j → ds[j]? = some d ∧ ∀ (m : Nat), m < j → ds[m]? ≠ some d
  | z :: r, d, j, h => by
    unfold idxS at h
    split at h
    · rename_i hz
      cases h
      exact ⟨by simp [hz], fun m hm => absurd hm (Nat.not_lt_zero _)⟩
    · rename_i hz
      cases e : idxS d r with
      | none => rw [e] at h; cases h
      | some i =>
        rw [e] at h; cases h
        obtain ⟨h1, h3⟩ := idxS_is e
        refine ⟨h1, fun m hm he => ?_⟩
        cases m with
        | zero => simp at he; exact hz he
        | succ m => exact h3 m (Nat.lt_of_succ_lt_succ hm) (by simpa using he)
section
variable {X : Cx} {W : WX} {p q : Bool} {e a b c o : Expr} {es rest : List Expr} {pos : Pos}
theorem tyX_of {K : PySem.W.Frag} {F H : Hp} {v : V} {d : D} (s : Same F H) (h : Pk K F H v d) : TyX K H v (.type (tyName d)) := by
  cases h with
  | ow h1 h2 => exact .base (.lst h1)
  | dp h =>
    cases h with
    | non => exact .base .non
    | bl b => exact .base (.bl b)
    | int i => exact .base (.int i)
    | str i => exact .base (.str i)
    | lst h1 h2 =>
      rcases h1 with (h1 | ⟨ob, h1⟩) | ⟨ob, _, _, h1, h2, _⟩
      · exact .base (.lst (s _ _ h1))
      · exact .base (.frz (s _ _ h1))
      · exact .kList h1 h2
    | tup h1 h2 =>
      rcases h1 with ⟨ob, h1, _⟩ | ⟨ob, _, _, h1, h2, _⟩
      · exact .fTuple (s _ _ h1)
      · exact .kTuple h1 h2
theorem ec_isi {T : String} {x y : Str} {p0 p1 : Pos} {f : M D} (hm : X.mg x = none) (hv : bootBuiltins x = some (.builtin "isinstance")) (hmT : X.mg y = none) (hvT : bootBuiltins y = some (.type T))
    (hk : ∀ d : D, kitB (tyName d) T = some (isiD T d)) (ha : EP X W p a f) (hg : Gl X x := by rfl) (hgT : Gl X y := by rfl) (hn : x ≠ "__name__" := by decide) (hdb : (x == ("__debug__" : Str)) = false := by decide) (hnT : y ≠ "__name__" := by decide) (hdbT : (y == ("__debug__" : Str)) = false := by decide)
    (hs : starEach [a, .Name y p1] X.env = (false, eval a X.env) :: starEach [.Name y p1] X.env := by rfl) (hs2 : starEach [.Name y p1] X.env = (false, eval (.Name y p1) X.env) :: starEach [] X.env := by rfl)
    (hpl : (backTo pos (starEach [.Name y p1] X.env)).any (·.1) = false := by rfl) : EC X W p (.Call (.Name x p0) [a, .Name y p1] [] pos) (isiM T f) := by
  obtain ⟨t, h, k⟩ := ha
  refine ⟨_, pe_callB call_isi hg hm hv (pa_cons h (pa_cons (pe_bltn (v := .ty T) hgT hmT hvT rfl hnT hdbT) pa_nil hs2) hs) hn hdb hs hpl, fun F H σ env fp Q L P => k F H σ env fp _ L (P.bnd.imp fun d e1 F1 H1 fp1 m1 L1 z v pv => ?_)⟩
  exact ⟨v, .ty T, .type (tyName d), .type T, isiD T d, rfl, .ty T, tyX_of L1.same pv, kit_ty (hk d), z.ret L1 _ ⟨[], .fz (.bl _), (fun _ m => by cases m), (fun _ m => by cases m)⟩⟩
theorem kit_by {T : String} (h : ["NoneType", "bool", "int", "str", "list", "tuple", "dict"].all (fun n => kitB n T == some (isiN T n)) = true) (d : D) : kitB (tyName d) T = some (isiD T d) := by
  simp only [List.all_cons, List.all_nil, Bool.and_eq_true, beq_iff_eq] at h
  obtain ⟨h1, h2, h3, h4, h5, h6, h7, _⟩ := h
  cases d
  · exact h1
  · exact h2
  · exact h3
  · exact h4
  · exact h5
  · exact h6
  · exact h7
theorem kit_list (d : D) : kitB (tyName d) "list" = some (isiD "list" d) := kit_by (by decide +kernel) d
theorem kit_tuple (d : D) : kitB (tyName d) "tuple" = some (isiD "tuple" d) := kit_by (by decide +kernel) d
theorem kit_dict (d : D) : kitB (tyName d) "dict" = some (isiD "dict" d) := kit_by (by decide +kernel) d
theorem kit_bool (d : D) : kitB (tyName d) "bool" = some (isiD "bool" d) := kit_by (by decide +kernel) d
theorem kit_int (d : D) : kitB (tyName d) "int" = some (isiD "int" d) := kit_by (by decide +kernel) d
theorem kit_str (d : D) : kitB (tyName d) "str" = some (isiD "str" d) := kit_by (by decide +kernel) d
/-! ### methods of texts -/
def rM1 (X : Cx) (g : Str → D → Option Cell) : V → List V → Hp → VK → Prop := fun x xs H Q => ∃ F a y d c, Same F H ∧ x = .str a ∧ xs = [y] ∧ Pk X.K F H y d ∧ g a d = some c ∧ NewV X F H c Q
theorem ec_str1 {id : String} {name : Str} {apos : Pos} {g : Str → D → Option Cell} {fo f : M D} (slot : Slot "str" name id) (ty : typeOf (.builtin id) = pure (.type "method_descriptor")) (rule : MtR X id (rM1 X g)) (ho : EP X W p o fo) (ha : EP X W true e f)
    (hs : starEach [e] X.env = [(false, eval e X.env)] := by rfl) (hbase : attributeBase o name X.env (eval o X.env) = eval o X.env := by rfl) (hline : (apos.endLine == pos.line) = true := by rfl) : EC X W p (.Call (.Attribute o name apos) [e] [] pos) (opSt g fo f) := by
  obtain ⟨t, h, k⟩ := ho
  obtain ⟨t1, h1, k1⟩ := ha
  refine ⟨_, pe_m1 slot ty rule h h1 hs hbase hline, fun F H σ env fp Q L P => k F H σ env fp _ L (P.bnd.imp fun d e1 F1 H1 fp1 m1 L1 z v pv => ?_)⟩
  cases d with
  | str a =>
    refine ⟨⟨a, pv.str⟩, k1 F1 H1 σ e1 fp1 _ L1 (((z.bnd.ret L1).bnd.le (fun _ => rfl)).imp fun d2 e2 F2 H2 fp2 m2 L2' z w pw => ?_)⟩
    obtain ⟨c, hg, z⟩ := z.lift
    exact ⟨F2, a, w, d2, c, L2'.same, pv.str, rfl, pw, hg, newV_of L2' (wpE.newC (m1.trans m2.weak) z)⟩
  | _ => exact z.elim
theorem mt_joinD : MtR X "str.join" (rM1 X sJoin) := by
  intro pins s σ H x xs v us Q I rx rs ⟨F, a, y, d, c, sm, hx, hxs, h, hg, q⟩
  subst hx hxs
  cases d <;> simp only [sJoin, reduceCtorEq] at hg
  case list ds =>
    split at hg
    · rename_i ys e
      split at hg
      · cases hg
        obtain ⟨b, vs, rfl, hl, al⟩ := h.list sm
        rw [strsOf_eq e] at al
        have ev := al.ofStrs
        subst ev
        exact mt_join pins s σ H _ _ v us Q I rx rs ⟨a, b, ys, rfl, rfl, .inl hl, by assumption, q.fz sm (.str _)⟩
      · cases hg
    · cases hg
  case tuple ds =>
    split at hg
    · rename_i ys e
      split at hg
      · cases hg
        obtain ⟨b, vs, rfl, hl, al⟩ := h.tuple sm
        rw [strsOf_eq e] at al
        have ev := al.ofStrs
        subst ev
        exact mt_join pins s σ H _ _ v us Q I rx rs ⟨a, b, ys, rfl, rfl, .inr hl.sq, by assumption, q.fz sm (.str _)⟩
      · cases hg
    · cases hg
theorem mt_splitD : MtR X "str.split" (rM1 X sSplit) := by
  intro pins s σ H x xs v us Q I rx rs ⟨F, a, y, d, c, sm, hx, hxs, h, hg, q⟩
  subst hx hxs
  cases d <;> simp only [sSplit, reduceCtorEq] at hg
  split at hg
  · cases hg
    rename_i b hz
    rw [h.str] at rs
    refine mt_split pins s σ H _ _ v us Q I rx rs ⟨a, b, rfl, rfl, hz.1, hz.2, fun p hp => ?_⟩
    exact q.ow sm (DqAll.strs _) hp
  · cases hg
theorem ec_join {apos : Pos} {fo f : M D} (ho : EP X W p o fo) (ha : EP X W true e f) (hs : starEach [e] X.env = [(false, eval e X.env)] := by rfl) (hbase : attributeBase o "join" X.env (eval o X.env) = eval o X.env := by rfl) (hline : (apos.endLine == pos.line) = true := by rfl) :
    EC X W p (.Call (.Attribute o "join" apos) [e] [] pos) (opSt sJoin fo f) := ec_str1 F.slot_str_join F.type_str_join mt_joinD ho ha hs hbase hline
theorem ec_split {apos : Pos} {fo f : M D} (ho : EP X W p o fo) (ha : EP X W true e f) (hs : starEach [e] X.env = [(false, eval e X.env)] := by rfl) (hbase : attributeBase o "split" X.env (eval o X.env) = eval o X.env := by rfl) (hline : (apos.endLine == pos.line) = true := by rfl) :
    EC X W p (.Call (.Attribute o "split" apos) [e] [] pos) (opSt sSplit fo f) := ec_str1 F.slot_str_split F.type_str_split mt_splitD ho ha hs hbase hline
/-! ### methods of lists and tuples -/
def rL1 (X : Cx) (g : List D → D → Option Cell) : V → List V → Hp → VK → Prop := fun x xs H Q => ∃ F ds y d c, Same F H ∧ Pk X.K F H x (.list ds) ∧ xs = [y] ∧ Pk X.K F H y d ∧ g ds d = some c ∧ NewV X F H c Q
theorem ec_lst1 {id : String} {name : Str} {apos : Pos} {g : List D → D → Option Cell} {fo f : M D} (pa : PlainAttrs "list") (slot : Slot "list" name id) (ty : typeOf (.builtin id) = pure (.type "method_descriptor")) (rule : MtR X id (rL1 X g)) (ho : EP X W p o fo) (ha : EP X W true e f)
    (hbase : attributeBase o name X.env (eval o X.env) = eval o X.env := by rfl)
    (hfew : ((backTo pos (starEach [e] X.env)).all (fun x => !x.1) && (backToKw pos (keywordEach [] X.env)).all (fun x => x.1.isSome)
      && decide ([e].length + ([] : List Keyword).length + (if ([] : List Keyword).isEmpty then 0 else 1) < 30)) = true := by rfl)
    (hline : (apos.endLine == pos.line) = true := by rfl) (hs : starEach [e] X.env = (false, eval e X.env) :: starEach [] X.env := by rfl) (hplain : (backTo pos (starEach [] X.env)).any (·.1) = false := by rfl) : EC X W p (.Call (.Attribute o name apos) [e] [] pos) (opLi g fo f) := by
  obtain ⟨t, h, k⟩ := ho
  obtain ⟨t1, h1, k1⟩ := ha
  refine ⟨_, pe_bm pa slot ty rule h (pa_cons h1 pa_nil hs) hbase hfew hline hs hplain, fun F H σ env fp Q L P => k F H σ env fp _ L (P.bnd.imp fun d e1 F1 H1 fp1 m1 L1 z v pv => ?_)⟩
  cases d with
  | list ds =>
    obtain ⟨a, vs, rfl, hl, al⟩ := pv.list L1.same
    refine ⟨.inl ⟨rfl, vs, hl⟩, k1 F1 H1 σ e1 fp1 _ L1 (((z.bnd.ret L1).bnd.le (fun _ => rfl)).imp fun d2 e2 F2 H2 fp2 m2 L2' z w pw => ?_)⟩
    obtain ⟨c, hg, z⟩ := z.lift
    exact ⟨F2, ds, w, d2, c, L2'.same, pv.mono m2, rfl, pw, hg, newV_of L2' (wpE.newC (m1.trans m2.weak) z)⟩
  | _ => exact z.elim
def rT1 (X : Cx) (g : List D → D → Option Cell) : V → List V → Hp → VK → Prop := fun x xs H Q => ∃ F ds y d c, Same F H ∧ Pk X.K F H x (.tuple ds) ∧ xs = [y] ∧ Pk X.K F H y d ∧ g ds d = some c ∧ NewV X F H c Q
theorem ec_tup1 {id : String} {name : Str} {apos : Pos} {g : List D → D → Option Cell} {fo f : M D} (pa : PlainAttrs "tuple") (slot : Slot "tuple" name id) (ty : typeOf (.builtin id) = pure (.type "method_descriptor")) (rule : MtR X id (rT1 X g)) (ho : EP X W p o fo) (ha : EP X W true e f)
    (hbase : attributeBase o name X.env (eval o X.env) = eval o X.env := by rfl)
    (hfew : ((backTo pos (starEach [e] X.env)).all (fun x => !x.1) && (backToKw pos (keywordEach [] X.env)).all (fun x => x.1.isSome)
      && decide ([e].length + ([] : List Keyword).length + (if ([] : List Keyword).isEmpty then 0 else 1) < 30)) = true := by rfl)
    (hline : (apos.endLine == pos.line) = true := by rfl) (hs : starEach [e] X.env = (false, eval e X.env) :: starEach [] X.env := by rfl) (hplain : (backTo pos (starEach [] X.env)).any (·.1) = false := by rfl) : EC X W p (.Call (.Attribute o name apos) [e] [] pos) (opTu g fo f) := by
  obtain ⟨t, h, k⟩ := ho
  obtain ⟨t1, h1, k1⟩ := ha
  refine ⟨_, pe_bmT pa slot ty rule h (pa_cons h1 pa_nil hs) hbase hfew hline hs hplain, fun F H σ env fp Q L P => k F H σ env fp _ L (P.bnd.imp fun d e1 F1 H1 fp1 m1 L1 z v pv => ?_)⟩
  cases d with
  | tuple ds =>
    obtain ⟨a, vs, rfl, hl, al⟩ := pv.tuple L1.same
    refine ⟨⟨a, vs, rfl, hl⟩, k1 F1 H1 σ e1 fp1 _ L1 (((z.bnd.ret L1).bnd.le (fun _ => rfl)).imp fun d2 e2 F2 H2 fp2 m2 L2' z w pw => ?_)⟩
    obtain ⟨c, hg, z⟩ := z.lift
    exact ⟨F2, ds, w, d2, c, L2'.same, pv.mono m2, rfl, pw, hg, newV_of L2' (wpE.newC (m1.trans m2.weak) z)⟩
  | _ => exact z.elim
theorem mt_lindexD (hu : X.A.units + 65 < cLine) : MtR X "list.index" (rL1 X lIndex) := by
  intro pins s σ H x xs v us Q I rx rs ⟨F, ds, y, d, c, sm, h1, hxs, h2, hg, q⟩
  subst hxs
  unfold lIndex at hg
  split at hg
  · rename_i hs
    cases e : idxD d ds with
    | none => rw [e] at hg; cases hg
    | some j =>
      rw [e] at hg; cases hg
      obtain ⟨z, hz, hzj, hno⟩ := idxD_is e
      have hp := (h1.dqH sm).dp
      obtain ⟨a, vs, rfl, hl, al⟩ := h1.list sm
      exact mt_indexD hu pins s σ H _ _ v us Q I rx rs ⟨a, y, d, ds, j, z, rfl, rfl, hp, (h2.dqH sm).dp, hs.1, hs.2, hz, hzj, hno, q.fz sm (.int _)⟩
  · cases hg
theorem mt_tindexD : MtR X "tuple.index" (rT1 X tIndex) := by
  intro pins s σ H x xs v us Q I rx rs ⟨F, ds, y, d, c, sm, h1, hxs, h2, hg, q⟩
  subst hxs
  cases d <;> simp only [tIndex, reduceCtorEq] at hg
  rename_i z
  split at hg
  · rename_i ys e
    cases ej : idxS z ys with
    | none => rw [ej] at hg; cases hg
    | some j =>
      rw [ej] at hg; cases hg
      obtain ⟨hz, hno⟩ := idxS_is ej
      obtain ⟨a, vs, rfl, hl, al⟩ := h1.tuple sm
      rw [strsOf_eq e] at al
      have ev := al.ofStrs
      subst ev
      exact mt_tup_index pins s σ H _ _ v us Q I rx rs ⟨a, ys, z, j, rfl, by rw [h2.str], hl.sq, hz, hno, q.fz sm (.int _)⟩
  · cases hg
theorem mt_lcountD : MtR X "list.count" (rL1 X lCount) := by
  intro pins s σ H x xs v us Q I rx rs ⟨F, ds, y, d, c, sm, h1, hxs, h2, hg, q⟩
  subst hxs
  cases d <;> simp only [lCount, reduceCtorEq] at hg
  rename_i k
  cases e : intsOf ds with
  | none => rw [e] at hg; cases hg
  | some ns =>
    rw [e] at hg; cases hg
    obtain ⟨a, vs, rfl, hl, al⟩ := h1.list sm
    rw [intsOf_eq e] at al
    have ev := al.ofInts
    subst ev
    exact mt_lcount pins s σ H _ _ v us Q I rx rs ⟨a, ns, k, rfl, by rw [h2.int], hl, q.fz sm (.int _)⟩
theorem ec_lindex {apos : Pos} {fo f : M D} (hu : X.A.units + 65 < cLine) (ho : EP X W p o fo) (ha : EP X W true e f)
    (hbase : attributeBase o "index" X.env (eval o X.env) = eval o X.env := by rfl)
    (hfew : ((backTo pos (starEach [e] X.env)).all (fun x => !x.1) && (backToKw pos (keywordEach [] X.env)).all (fun x => x.1.isSome)
      && decide ([e].length + ([] : List Keyword).length + (if ([] : List Keyword).isEmpty then 0 else 1) < 30)) = true := by rfl)
    (hline : (apos.endLine == pos.line) = true := by rfl) (hs : starEach [e] X.env = (false, eval e X.env) :: starEach [] X.env := by rfl) (hplain : (backTo pos (starEach [] X.env)).any (·.1) = false := by rfl) : EC X W p (.Call (.Attribute o "index" apos) [e] [] pos) (opLi lIndex fo f) :=
  ec_lst1 F.plainAttrs_list F.slot_list_index F.type_list_index (mt_lindexD hu) ho ha hbase hfew hline hs hplain
theorem ec_lcount {apos : Pos} {fo f : M D} (ho : EP X W p o fo) (ha : EP X W true e f)
    (hbase : attributeBase o "count" X.env (eval o X.env) = eval o X.env := by rfl)
    (hfew : ((backTo pos (starEach [e] X.env)).all (fun x => !x.1) && (backToKw pos (keywordEach [] X.env)).all (fun x => x.1.isSome)
      && decide ([e].length + ([] : List Keyword).length + (if ([] : List Keyword).isEmpty then 0 else 1) < 30)) = true := by rfl)
    (hline : (apos.endLine == pos.line) = true := by rfl) (hs : starEach [e] X.env = (false, eval e X.env) :: starEach [] X.env := by rfl) (hplain : (backTo pos (starEach [] X.env)).any (·.1) = false := by rfl) : EC X W p (.Call (.Attribute o "count" apos) [e] [] pos) (opLi lCount fo f) :=
  ec_lst1 F.plainAttrs_list F.slot_list_count F.type_list_count mt_lcountD ho ha hbase hfew hline hs hplain
theorem ec_tindex {apos : Pos} {fo f : M D} (ho : EP X W p o fo) (ha : EP X W true e f)
    (hbase : attributeBase o "index" X.env (eval o X.env) = eval o X.env := by rfl)
    (hfew : ((backTo pos (starEach [e] X.env)).all (fun x => !x.1) && (backToKw pos (keywordEach [] X.env)).all (fun x => x.1.isSome)
      && decide ([e].length + ([] : List Keyword).length + (if ([] : List Keyword).isEmpty then 0 else 1) < 30)) = true := by rfl)
    (hline : (apos.endLine == pos.line) = true := by rfl) (hs : starEach [e] X.env = (false, eval e X.env) :: starEach [] X.env := by rfl) (hplain : (backTo pos (starEach [] X.env)).any (·.1) = false := by rfl) : EC X W p (.Call (.Attribute o "index" apos) [e] [] pos) (opTu tIndex fo f) :=
  ec_tup1 F.plainAttrs_tuple F.slot_tuple_index F.type_tuple_index mt_tindexD ho ha hbase hfew hline hs hplain
end
end DL

set_option Elab.async false
set_option linter.all false
set_option maxRecDepth 100000
set_option maxHeartbeats 4000000
/-! DL, part g: targets, what is walked, comprehensions. -/
namespace L2
open PySem PySem.Spec PyProof.Rows
/-- a list, a tuple, a text: walked as it is -/
def iAny (K : PySem.W.Frag) (tl : TE) : TI := fun σ H R => tl σ H fun x H1 => (∃ a, x = .ref a ∧ (∃ xs, SqL K H1 a xs) ∧ R (Itl K a) H1) ∨ (∃ a, x = .ref a ∧ (∃ xs, SqT K H1 a xs) ∧ R (Itt K a) H1) ∨ ∃ z, x = .str z ∧ R (Its z) H1
theorem pi_any {X : Cx} {tg l : Expr} {tl : TE} (hl : PE X l tl) : PI X tg l (iAny X.K tl) := by
  refine ⟨fun pins s σ H R I h => ?_⟩
  refine thn (hl.run pins s σ H _ I h) fun v s1 ⟨x, H1, I1, r1, q1⟩ => ?_
  rcases q1 with ⟨a, e, ⟨xs, hq⟩, q⟩ | ⟨a, e, ⟨xs, hq⟩, q⟩ | ⟨z, e, q⟩
  · subst e
    cases r1
    obtain ⟨its, rv, p, hz⟩ := I1.list hq
    refine wpAny_pyIter_list p.isList ?_
    refine ⟨s1.heap.objs.size, [s1.heap.objs.size], _, _, H1, rfl, I1.kept (t' := s1.toks) fun b o e => Heap.get?_push_of_some _ e, turn_list a _, ⟨_, Heap.get?_push_size _ rfl, rfl, rfl⟩, fun b hb => ?_, q⟩
    have e : b = s1.heap.objs.size := by simpa using hb
    subst e
    exact I1.fpOk (Nat.le_refl _) (I1.hok.fresh (Nat.le_refl _))
  · subst e
    cases r1
    obtain ⟨its, rv, p, hz⟩ := I1.tuple hq
    refine wpAny_pyIter_tuple (show s1.heap.IsTuple a its.toArray from p) ?_
    refine ⟨s1.heap.objs.size, [s1.heap.objs.size], _, _, H1, rfl, I1.kept (t' := s1.toks) fun b o e => Heap.get?_push_of_some _ e, turn_tuple a _, ⟨_, Heap.get?_push_size _ rfl, rfl, rfl⟩, fun b hb => ?_, q⟩
    have e : b = s1.heap.objs.size := by simpa using hb
    subst e
    exact I1.fpOk (Nat.le_refl _) (I1.hok.fresh (Nat.le_refl _))
  · subst e
    obtain ⟨t, rfl⟩ := r1
    cases ha : z.cps.all (· < 128)
    · exact wpAny_pyIter_wide ha (pi_one (tk := s1.toks) I1 _ (turn_str _ z t "str_iterator" (.inr rfl)) ⟨_, Heap.get?_push_size _ rfl, rfl, rfl⟩ q)
    · exact wpAny_pyIter_ascii ha (pi_one (tk := s1.toks) I1 _ (turn_str _ z t "str_ascii_iterator" (.inl rfl)) ⟨_, Heap.get?_push_size _ rfl, rfl, rfl⟩ q)
theorem wipe_get {σ : St} {j : Nat} : ∀ {vs : List Nat}, (wipe σ vs)[j]? = if j ∈ vs ∧ j < σ.length then some none else σ[j]?
  | [] => by simp [wipe]
  | v :: vs => by
    unfold wipe
    by_cases e : v = j
    · subst e
      by_cases h : v < σ.length
      · rw [List.getElem?_set_self (by rw [wipe_length]; exact h), if_pos ⟨List.mem_cons_self, h⟩]
      · rw [if_neg (fun z => h z.2), List.getElem?_eq_none (by rw [List.length_set, wipe_length]; omega), List.getElem?_eq_none (by omega)]
    · rw [List.getElem?_set_ne e, wipe_get]
      by_cases h : j ∈ vs
      · simp [h]
      · simp [h, Ne.symm e]
end L2
namespace DL
open PySem PySem.Spec L2
/-! ### targets -/
def setD (i : Nat) (d : D) (e : LE) : Option LE := if i < e.length then some (e.set i (some (.fz d))) else none
def setAll : List Nat → List D → LE → Option LE
  | [], [], e => some e
  | i :: is, d :: ds, e => (setD i d e).bind fun e' => setAll is ds e'
  | _, _, _ => none
def setT (is : List Nat) : D → LE → Option LE
  | .tuple ds, e => setAll is ds e
  | _, _ => none
/-- only the slots ts have changed -/
def SetOn (ts : List Nat) (σ σ' : L2.St) : Prop := σ'.length = σ.length ∧ ∀ j, j ∉ ts → σ'[j]? = σ[j]?
theorem SetOn.wipe {ts vs : List Nat} {σ σ' : L2.St} (h : SetOn ts σ σ') (hs : ∀ i ∈ ts, i ∈ vs) : wipe σ' vs = wipe σ vs := by
  apply List.ext_getElem?
  intro j
  rw [wipe_get, wipe_get, h.1]
  by_cases hj : j ∈ vs
  · by_cases hl : j < σ.length
    · rw [if_pos ⟨hj, hl⟩, if_pos ⟨hj, hl⟩]
    · rw [if_neg (fun z => hl z.2), if_neg (fun z => hl z.2), List.getElem?_eq_none (by rw [h.1]; omega), List.getElem?_eq_none (by omega)]
  · rw [if_neg (fun z => hj z.1), if_neg (fun z => hj z.1)]
    exact h.2 j fun z => hj (hs j z)
theorem SetOn.refl (σ : L2.St) : SetOn [] σ σ := ⟨rfl, fun _ _ => rfl⟩
theorem SetOn.one {σ : L2.St} {i : Nat} {v : Option V} : SetOn [i] σ (σ.set i v) := ⟨List.length_set, fun j hj => by rw [List.getElem?_set_ne (fun e => hj (by simp [e]))]⟩
theorem SetOn.trans {ts us : List Nat} {σ σ1 σ2 : L2.St} (a : SetOn ts σ σ1) (b : SetOn us σ1 σ2) : SetOn (ts ++ us) σ σ2 :=
  ⟨b.1.trans a.1, fun j hj => by rw [List.mem_append, not_or] at hj; rw [b.2 j hj.2, a.2 j hj.1]⟩
theorem wipe_wipe {σ : L2.St} {vs : List Nat} : wipe (wipe σ vs) vs = wipe σ vs := by
  apply List.ext_getElem?
  intro j
  rw [wipe_get, wipe_length, wipe_get]
  by_cases h : j ∈ vs ∧ j < σ.length
  · rw [if_pos h, if_pos h]
  · rw [if_neg h]
section
variable (X : Cx)
/-- a target that takes frozen data -/
def TJ (tg : Expr) (ts : List Nat) (f : D → LE → Option LE) : Prop := ∃ t, PG X tg t ∧ ∀ (F H : Hp) (σ : L2.St) (env e' : LE) (fp : FP) (v : V) (d : D) (Q : L2.St → Hp → Prop), LOk X.K X.mg F H σ env fp → Dq X.K F v d → f d env = some e' →
  (∀ σ' fp', LOk X.K X.mg F H σ' e' fp' → Mv true F H fp F H fp' → SetOn ts σ σ' → Q σ' H) → t v σ H Q
/-- a target of several names, for a tuple however it stands -/
def TL (tg : Expr) (ts : List Nat) (f : List D → LE → Option LE) : Prop := ∃ t, PG X tg t ∧ ∀ (F H : Hp) (σ : L2.St) (env e' : LE) (fp : FP) (a : Addr) (vs : List V) (ds : List D) (Q : L2.St → Hp → Prop), LOk X.K X.mg F H σ env fp → SqT X.K H a vs → DqAll X.K F vs ds → f ds env = some e' →
  (∀ σ' fp', LOk X.K X.mg F H σ' e' fp' → Mv true F H fp F H fp' → SetOn ts σ σ' → Q σ' H) → t (.ref a) σ H Q
def TLs (tgs : List Expr) (ts : List Nat) : Prop := ∃ t, PGs X tgs t ∧ ∀ (F H : Hp) (σ : L2.St) (env e' : LE) (fp : FP) (vs : List V) (ds : List D) (Q : L2.St → Hp → Prop), LOk X.K X.mg F H σ env fp → DqAll X.K F vs ds → setAll ts ds env = some e' →
  (∀ σ' fp', LOk X.K X.mg F H σ' e' fp' → Mv true F H fp F H fp' → SetOn ts σ σ' → Q σ' H) → t vs σ H Q
end
section
variable {X : Cx} {pos : Pos}
theorem LOk.setFz {K : PySem.W.Frag} {mg : Str → Option Value} {F H : Hp} {σ : L2.St} {env : LE} {fp : FP} (L : LOk K mg F H σ env fp) {i : Nat} {v : V} {d : D} (hi : i < env.length) (h : Dq K F v d) :
    LOk K mg F H (σ.set i (some v)) (env.set i (some (.fz d))) (fpSet fp i []) ∧ Mv true F H fp F H (fpSet fp i []) := by
  refine ⟨L.set hi (.fz h) (fun a m => by cases m), ⟨Same.refl _, fun _ _ e _ _ => e, fun _ _ e => .inl e, fun a u => ?_, fun _ e => e⟩⟩
  rcases U_fpSet u with z | ⟨j, _, z⟩
  · cases z
  · exact .inl ⟨j, z⟩
theorem tj_name (i : Nat) {x : Str} (hN : X.N.Nodup) (hi : X.N[i]? = some x := by rfl) (hx : Loc X.env.scope x := by first | exact Or.inl rfl | exact Or.inr rfl) (hf : X.fn x = true ∨ X.env.scope.names.lookup x = some .local := by first | exact .inl rfl | exact .inr rfl) : TJ X (.Name x pos) [i] (setD i) := by
  refine ⟨_, pg_name hN hi hx hf, fun F H σ env e' fp v d Q L h he q => ?_⟩
  unfold setD at he
  split at he
  · cases he
    rename_i hl
    obtain ⟨L', m⟩ := L.setFz hl h
    exact q _ _ L' m SetOn.one
  · cases he
theorem tls_nil : TLs X [] [] := ⟨_, pgs_nil, fun F H σ env e' fp vs ds Q L h he q => by
  cases ds with
  | nil => cases h; cases he; exact ⟨rfl, q _ _ L (Mv.refl _ _ _ _) (SetOn.refl _)⟩
  | cons _ _ => cases he⟩
theorem tls_cons {e : Expr} {es : List Expr} {i : Nat} {is : List Nat} (h1 : TJ X e [i] (setD i)) (h2 : TLs X es is) (hs : (assignEach (e :: es) X.env).map (·.2) = assign e X.env :: (assignEach es X.env).map (·.2) := by rfl) : TLs X (e :: es) (i :: is) := by
  obtain ⟨t, h1, k1⟩ := h1
  obtain ⟨u, h2, k2⟩ := h2
  refine ⟨_, pgs_cons h1 h2 hs, fun F H σ env e' fp vs ds Q L h he q => ?_⟩
  cases ds with
  | nil => cases he
  | cons d ds =>
    cases h with
    | cons hd hr =>
      simp only [setAll] at he
      cases e1 : setD i d env with
      | none => rw [e1] at he; cases he
      | some env1 =>
        rw [e1] at he
        refine ⟨_, _, rfl, k1 F H σ env env1 fp _ d _ L hd e1 fun σ1 fp1 L1 m1 s1 => k2 F H σ1 env1 e' fp1 _ ds _ L1 hr he fun σ2 fp2 L2' m2 s2 => q _ _ L2' (m1.trans m2) (s1.trans s2)⟩
theorem setAll_len : ∀ {is : List Nat} {ds : List D} {e e' : LE}, setAll is ds e = some e' → ds.length = is.length
  | [], [], _, _, _ => rfl
  | i :: is, d :: ds, e, e', h => by
    simp only [setAll] at h
    cases e1 : setD i d e with
    | none => rw [e1] at h; cases h
    | some env1 => rw [e1] at h; exact congrArg (· + 1) (setAll_len h)
  | [], _ :: _, _, _, h => by cases h
  | _ :: _, [], _, _, h => by cases h
theorem tl_tup {es : List Expr} {k : Nat} {is : List Nat} (hc : X.calm = true) (h : TLs X es is) (hn : (assignEach es X.env).length = is.length := by rfl) (hst : (assignEach es X.env).findIdx? (·.1) = none := by rfl) : TL X (.Tuple es k pos) is (setAll is) := by
  obtain ⟨t, h, kk⟩ := h
  refine ⟨_, pg_tup hc h hn hst, fun F H σ env e' fp a vs ds Q L hq hd he q => ?_⟩
  exact ⟨a, vs, rfl, hq, by rw [hd.len]; exact setAll_len he, kk F H σ env e' fp vs ds Q L hd he q⟩
theorem TL.tj {tg : Expr} {is : List Nat} (h : TL X tg is (setAll is)) : TJ X tg is (setT is) := by
  obtain ⟨t, h, kk⟩ := h
  refine ⟨t, h, fun F H σ env e' fp v d Q L hd he q => ?_⟩
  cases d <;> simp only [setT, reduceCtorEq] at he
  cases hd with
  | tup h1 h2 => exact kk F H σ env e' fp _ _ _ Q L (SqT_mono L.same h1.sq) h2 he q
end
/-! ### what is walked -/
section
variable (X : Cx)
/-- J steps through ds. fz: as long as what is frozen stays; lo: each item in a new tuple -/
def Stp (fz lo : Bool) (F H : Hp) (J : It) (ds : List D) : Prop := ∀ F2 H2, Same F F2 → Same F2 H2 → (fz = false → LamX.ExtN H H2) → ∀ i : Nat,
  (ds.length ≤ i → J.stop i H2) ∧ (i < ds.length → J.go i H2) ∧
  ∀ x H3, i < ds.length → J.yld i H2 x H3 → ∃ d, ds[i]? = some d ∧ if lo = true then (∃ T vs es, x = .ref T ∧ H2 T = none ∧ H3 = upd H2 T (.tup vs) ∧ d = .tuple es ∧ DqAll X.K F2 vs es) else H3 = H2 ∧ Dq X.K F2 x d
def EI (W : WX) (fz lo p : Bool) (tg e : Expr) (f : M (List D)) : Prop := ∃ wi, PI X tg e wi ∧ ∀ (F H : Hp) (σ : L2.St) (env : LE) (fp : FP) (R : It → Hp → Prop), LOk X.K X.mg F H σ env fp →
  wpE X W p F H σ fp (f env) (fun ds _ F' H' _ => ∀ J, Stp X fz lo F' H' J ds → R J H') → wi σ H R
end
def signs (z : Str) : List D := z.cps.toList.map signD
def itemsD : D → Option (List D)
  | .list ds => some ds
  | .tuple ds => some ds
  | .str z => some (signs z)
  | _ => none
def rangeD (lo : Int) (n : Nat) : List D := (List.range n).map fun (i : Nat) => .int (lo + i)
def rangeC (lo c : Int) (n : Nat) : List D := (List.range n).map fun (i : Nat) => .int (lo + i * c)
def enumD (ds : List D) : List D := ds.zipIdx.map fun (d, i) => .tuple [.int (i : Nat), d]
def zipD (ds es : List D) : List D := (ds.zip es).map fun (d, e) => .tuple [d, e]
def mIter (f : M D) : M (List D) := bnd f fun d => lift (itemsD d)
def sm62 (i : Int) : Bool := decide (-4611686018427387904 ≤ i ∧ i < 4611686018427387904)
def mRange1 (f : M (List D)) : M (List D) := bnd f fun ds => match ds with
  | [.int j] => if sm62 j = true then ret (rangeD 0 j.toNat) else stuck
  | _ => stuck
def mRange2 (f : M (List D)) : M (List D) := bnd f fun ds => match ds with
  | [.int i, .int j] => if sm62 i = true ∧ sm62 j = true then ret (rangeD i (j - i).toNat) else stuck
  | _ => stuck
def mEnum (f : M (List D)) : M (List D) := bnd f fun ds => match ds with
  | [.list xs] => ret (enumD xs)
  | _ => stuck
def mZip (f : M (List D)) : M (List D) := bnd f fun ds => match ds with
  | [.list xs, .list ys] => ret (zipD xs ys)
  | _ => stuck
def mRev (f : M D) : M (List D) := bnd f fun d => match d with
  | .list xs => ret xs.reverse
  | .tuple xs => ret xs.reverse
  | _ => stuck
section
variable {X : Cx} {W : WX} {fz lo p : Bool} {tg e : Expr} {pos : Pos}
theorem EI.weak {f : M (List D)} (h : EI X W fz lo true tg e f) : EI X W fz lo p tg e f := by
  obtain ⟨t, he, k⟩ := h
  exact ⟨t, he, fun F H σ env fp Q L P => k F H σ env fp Q L (P.le (fun _ => rfl))⟩
theorem Stp.pk {F H : Hp} {J : It} {ds : List D} (h : Stp X true lo F H J ds) : Stp X fz lo F H J ds := fun F2 H2 h1 h2 _ => h F2 H2 h1 h2 (fun z => by cases z)
/-- a list that stays -/
theorem stp_list {F H : Hp} {a : Addr} {vs : List V} {ds : List D} (hl : ∀ F2 H2, Same F F2 → Same F2 H2 → (fz = false → LamX.ExtN H H2) → SqL X.K H2 a vs) (al : DqAll X.K F vs ds) : Stp X fz false F H (Itl X.K a) ds := fun F2 H2 h1 h2 h3 i => by
  have r := hl F2 H2 h1 h2 h3
  have len := al.len
  refine ⟨fun h => ⟨vs, r, by omega⟩, fun h => ⟨vs, vs[i]'(by omega), r, by simp⟩, fun x H3 h ⟨e1, e2⟩ => ?_⟩
  obtain ⟨d, hd, dd⟩ := al.atV (e2 vs r)
  exact ⟨d, hd, by simp only [Bool.false_eq_true, if_false]; exact ⟨e1, Dq_mono h1 _ _ dd⟩⟩
theorem stp_tup {F H : Hp} {a : Addr} {vs : List V} {ds : List D} (hl : SqT X.K F a vs) (al : DqAll X.K F vs ds) : Stp X fz false F H (Itt X.K a) ds := fun F2 H2 h1 h2 h3 i => by
  have r := SqT_mono (h1.trans h2) hl
  have len := al.len
  refine ⟨fun h => ⟨vs, r, by omega⟩, fun h => ⟨vs, vs[i]'(by omega), r, by simp⟩, fun x H3 h ⟨e1, e2⟩ => ?_⟩
  obtain ⟨d, hd, dd⟩ := al.atV (e2 vs r)
  exact ⟨d, hd, by simp only [Bool.false_eq_true, if_false]; exact ⟨e1, Dq_mono h1 _ _ dd⟩⟩
theorem stp_str {F H : Hp} {z : Str} : Stp X fz false F H (Its z) (signs z) := fun F2 H2 h1 h2 h3 i => by
  have len : (signs z).length = z.cps.size := by simp [signs]
  refine ⟨fun h => by rw [len] at h; exact h, fun h => by rw [len] at h; exact h, fun x H3 h ⟨e1, c, e2, e3⟩ => ?_⟩
  refine ⟨signD c, ?_, by simp only [Bool.false_eq_true, if_false]; exact ⟨e1, by rw [e3]; exact .str _⟩⟩
  unfold signs
  rw [List.getElem?_map, Array.getElem?_toList, e2]; rfl
theorem stp_range {F H : Hp} {l : Int} {n : Nat} : Stp X fz false F H (Itr l n) (rangeD l n) := fun F2 H2 h1 h2 h3 i => by
  have len : (rangeD l n).length = n := by simp [rangeD]
  refine ⟨fun h => by rw [len] at h; exact h, fun h => by rw [len] at h; exact h, fun x H3 h ⟨e1, e3⟩ => ?_⟩
  rw [len] at h
  refine ⟨.int (l + i), ?_, by simp only [Bool.false_eq_true, if_false]; exact ⟨e1, by rw [e3]; exact .int _⟩⟩
  simp [rangeD, h]
theorem stp_rangeC {F H : Hp} {l c : Int} {n : Nat} : Stp X fz false F H (Itc l c n) (rangeC l c n) := fun F2 H2 h1 h2 h3 i => by
  have len : (rangeC l c n).length = n := by simp [rangeC]
  refine ⟨fun h => by rw [len] at h; exact h, fun h => by rw [len] at h; exact h, fun x H3 h ⟨e1, e3⟩ => ?_⟩
  rw [len] at h
  refine ⟨.int (l + i * c), ?_, by simp only [Bool.false_eq_true, if_false]; exact ⟨e1, by rw [e3]; exact .int _⟩⟩
  simp [rangeC, h]
theorem SqL_ext {K : PySem.W.Frag} {H H' : Hp} {a : Addr} {xs : List V} (e : LamX.ExtN H H') (h : SqL K H a xs) : SqL K H' a xs := by
  rcases h with (h | ⟨o, h⟩) | h
  · exact .inl (.inl (e _ _ h (fun _ z => by cases z)))
  · exact .inl (.inr ⟨o, e _ _ h (fun _ z => by cases z)⟩)
  · exact .inr h
theorem rd_of {F H : Hp} {a : Addr} {vs : List V} (h : SqL X.K F a vs) : ∀ F2 H2, Same F F2 → Same F2 H2 → (fz = false → LamX.ExtN H H2) → SqL X.K H2 a vs := fun F2 H2 h1 h2 _ => SqL_mono (h1.trans h2) h
/-- over data: a list, a tuple, a text; frozen -/
theorem ei_any {f : M D} (h : ES X W p e f) : EI X W true false p tg e (mIter f) := by
  obtain ⟨t, h, k⟩ := h
  refine ⟨_, pi_any h, fun F H σ env fp R L P => k F H σ env fp _ L (P.bnd.imp fun d e1 F1 H1 fp1 m1 L1 z v dv => ?_)⟩
  obtain ⟨ds, hi, z⟩ := z.lift
  have z := wpE.ret L1 z
  cases d <;> simp only [itemsD, reduceCtorEq, Option.some.injEq] at hi
  case list xs =>
    subst hi
    cases dv with
    | lst h1 h2 => exact .inl ⟨_, rfl, ⟨_, SqL_mono L1.same h1⟩, z _ (stp_list (rd_of h1) h2)⟩
  case tuple xs =>
    subst hi
    cases dv with
    | tup h1 h2 => exact .inr (.inl ⟨_, rfl, ⟨_, SqT_mono L1.same h1.sq⟩, z _ (stp_tup h1.sq h2)⟩)
  case str y =>
    subst hi
    cases dv
    exact .inr (.inr ⟨_, rfl, z _ stp_str⟩)
/-- .. a list of our own that the walk leaves as it is -/
theorem ei_pk {f : M D} (h : EP X W p e f) : EI X W false false p tg e (mIter f) := by
  obtain ⟨t, h, k⟩ := h
  refine ⟨_, pi_any h, fun F H σ env fp R L P => k F H σ env fp _ L (P.bnd.imp fun d e1 F1 H1 fp1 m1 L1 z v dv => ?_)⟩
  obtain ⟨ds, hi, z⟩ := z.lift
  have z := wpE.ret L1 z
  cases dv with
  | dp dv =>
    cases d <;> simp only [itemsD, reduceCtorEq, Option.some.injEq] at hi
    case list xs =>
      subst hi
      cases dv with
      | lst h1 h2 => exact .inl ⟨_, rfl, ⟨_, SqL_mono L1.same h1⟩, z _ (stp_list (rd_of h1) h2)⟩
    case tuple xs =>
      subst hi
      cases dv with
      | tup h1 h2 => exact .inr (.inl ⟨_, rfl, ⟨_, SqT_mono L1.same h1.sq⟩, z _ (stp_tup h1.sq h2)⟩)
    case str y =>
      subst hi
      cases dv
      exact .inr (.inr ⟨_, rfl, z _ stp_str⟩)
  | ow h1 h2 =>
    simp only [itemsD, Option.some.injEq] at hi
    subst hi
    exact .inl ⟨_, rfl, ⟨_, .inl (.inl h1)⟩, z _ (stp_list (fun F2 H2 _ _ s => .inl (.inl (s rfl _ _ h1 (fun _ z => by cases z)))) h2)⟩
theorem ei_range1 {a : Expr} {p0 : Pos} {f : M (List D)} (ha : AP X W p [a] f) (hm : X.mg "range" = none) (hg : Gl X "range" := by rfl) (hs : starEach [a] X.env = [(false, eval a X.env)] := by rfl) : EI X W true false p tg (.Call (.Name "range" p0) [a] [] pos) (mRange1 f) := by
  obtain ⟨t, h, k⟩ := ha
  refine ⟨_, pi_range1 hg hm h hs, fun F H σ env fp R L P => k F H σ env fp _ L (P.bnd.imp fun ds e1 F1 H1 fp1 m1 L1 z vs dv => ?_)⟩
  split at z
  · rename_i j
    split at z
    · rename_i hj
      obtain ⟨v, rfl, h1⟩ := dv.one
      have hj' : -4611686018427387904 ≤ j ∧ j < 4611686018427387904 := by simpa [sm62] using hj
      exact ⟨j, by rw [h1.int], by omega, by omega, wpE.ret L1 z _ stp_range⟩
    · exact z.elim
  · exact z.elim
theorem ei_range2 {a b : Expr} {p0 : Pos} {f : M (List D)} (ha : AP X W p [a, b] f) (hm : X.mg "range" = none) (hg : Gl X "range" := by rfl) (hs : starEach [a, b] X.env = [(false, eval a X.env), (false, eval b X.env)] := by rfl) (hs2 : starEach [b] X.env = [(false, eval b X.env)] := by rfl) :
    EI X W true false p tg (.Call (.Name "range" p0) [a, b] [] pos) (mRange2 f) := by
  obtain ⟨t, h, k⟩ := ha
  refine ⟨_, pi_range2 hg hm h hs hs2, fun F H σ env fp R L P => k F H σ env fp _ L (P.bnd.imp fun ds e1 F1 H1 fp1 m1 L1 z vs dv => ?_)⟩
  split at z
  · rename_i i j
    split at z
    · rename_i hj
      obtain ⟨v, w, rfl, h1, h2⟩ := dv.two
      have hj' : (-4611686018427387904 ≤ i ∧ i < 4611686018427387904) ∧ -4611686018427387904 ≤ j ∧ j < 4611686018427387904 := by simpa [sm62] using hj
      exact ⟨i, j, by rw [h1.int, h2.int], ⟨by omega, by omega, by omega, by omega⟩, wpE.ret L1 z _ stp_range⟩
    · exact z.elim
  · exact z.elim
theorem ei_enum {a : Expr} {p0 tpos : Pos} {elts : List Expr} {kk : Nat} {f : M (List D)} (ha : AP X W p [a] f) (hm : X.mg "enumerate" = none) (hg : Gl X "enumerate" := by rfl) (hs : starEach [a] X.env = [(false, eval a X.env)] := by rfl) : EI X W false true p (.Tuple elts kk tpos) (.Call (.Name "enumerate" p0) [a] [] pos) (mEnum f) := by
  obtain ⟨t, h, k⟩ := ha
  refine ⟨_, pi_enum hg hm h hs, fun F H σ env fp R L P => k F H σ env fp _ L (P.bnd.imp fun ds e1 F1 H1 fp1 m1 L1 z vs dv => ?_)⟩
  split at z
  · rename_i xs
    obtain ⟨v, rfl, h1⟩ := dv.one
    obtain ⟨a, vs, rfl, hl, al⟩ := h1.list L1.same
    refine ⟨a, vs, rfl, hl, wpE.ret L1 z _ fun F2 H2 s1 s2 s3 i => ?_⟩
    have r := SqL_ext (s3 rfl) hl
    have len := al.len
    have le : (enumD xs).length = xs.length := by simp [enumD]
    refine ⟨fun h => ⟨vs, r, by omega⟩, fun h => ⟨vs, vs[i]'(by omega), r, by simp⟩, fun x H3 h ⟨T, y, ex, nT, eH, ey⟩ => ?_⟩
    obtain ⟨d, hd, dd⟩ := al.atV (ey vs r)
    refine ⟨.tuple [.int (i : Nat), d], ?_, by simp only [if_true]; exact ⟨T, _, _, ex, nT, eH, rfl, .cons (.int _) (.cons (Dq_mono s1 _ _ dd) .nil)⟩⟩
    unfold enumD
    rw [List.getElem?_map, List.getElem?_zipIdx, hd]; simp
  · exact z.elim
/-- .. frozen: a body may do as it likes -/
theorem ei_enumF {a : Expr} {p0 tpos : Pos} {elts : List Expr} {kk : Nat} {f : M (List D)} (ha : AC X W p [a] f) (hm : X.mg "enumerate" = none) (hg : Gl X "enumerate" := by rfl) (hs : starEach [a] X.env = [(false, eval a X.env)] := by rfl) : EI X W true true p (.Tuple elts kk tpos) (.Call (.Name "enumerate" p0) [a] [] pos) (mEnum f) := by
  obtain ⟨t, h, k⟩ := ha
  refine ⟨_, pi_enum hg hm h hs, fun F H σ env fp R L P => k F H σ env fp _ L (P.bnd.imp fun ds e1 F1 H1 fp1 m1 L1 z vs dv => ?_)⟩
  split at z
  · rename_i xs
    cases dv with
    | cons h1 h2 =>
      cases h2
      cases h1 with
      | lst hl al =>
        refine ⟨_, _, rfl, SqL_mono L1.same hl, wpE.ret L1 z _ fun F2 H2 s1 s2 s3 i => ?_⟩
        have r := SqL_mono (s1.trans s2) hl
        have len := al.len
        have le : (enumD xs).length = xs.length := by simp [enumD]
        refine ⟨fun h => ⟨_, r, by omega⟩, fun h => ⟨_, _, r, List.getElem?_eq_getElem (by omega)⟩, fun x H3 h ⟨T, y, ex, nT, eH, ey⟩ => ?_⟩
        obtain ⟨d, hd, dd⟩ := al.atV (ey _ r)
        refine ⟨.tuple [.int (i : Nat), d], ?_, by simp only [if_true]; exact ⟨T, _, _, ex, nT, eH, rfl, .cons (.int _) (.cons (Dq_mono s1 _ _ dd) .nil)⟩⟩
        unfold enumD
        rw [List.getElem?_map, List.getElem?_zipIdx, hd]; simp
  · exact z.elim
theorem ei_zipF {a b : Expr} {p0 tpos : Pos} {elts : List Expr} {kk : Nat} {f : M (List D)} (ha : AC X W p [a, b] f) (hm : X.mg "zip" = none) (hg : Gl X "zip" := by rfl)
    (hs : starEach [a, b] X.env = (false, eval a X.env) :: starEach [b] X.env := by rfl) (hpl : (backTo pos (starEach [b] X.env)).any (·.1) = false := by rfl) : EI X W true true p (.Tuple elts kk tpos) (.Call (.Name "zip" p0) [a, b] [] pos) (mZip f) := by
  obtain ⟨t, h, k⟩ := ha
  refine ⟨_, pi_zip hg hm h hs hpl, fun F H σ env fp R L P => k F H σ env fp _ L (P.bnd.imp fun ds e1 F1 H1 fp1 m1 L1 z vs dv => ?_)⟩
  split at z
  · rename_i xs ys
    cases dv with
    | cons h1 h2 =>
      cases h2 with
      | cons h2 h3 =>
        cases h3
        cases h1 with
        | lst hl al =>
          cases h2 with
          | lst hl2 al2 =>
            refine ⟨_, _, _, _, rfl, SqL_mono L1.same hl, SqL_mono L1.same hl2, wpE.ret L1 z _ fun F2 H2 s1 s2 s3 i => ?_⟩
            have r := SqL_mono (s1.trans s2) hl
            have r2 := SqL_mono (s1.trans s2) hl2
            have len := al.len
            have len2 := al2.len
            have le : (zipD xs ys).length = min xs.length ys.length := by simp [zipD]
            refine ⟨fun h => ⟨_, _, r, r2, by omega⟩, fun h => ⟨_, _, _, _, r, r2, List.getElem?_eq_getElem (by omega), List.getElem?_eq_getElem (by omega)⟩, fun x H3 h ⟨T, y, w, ex, nT, eH, ey, ew⟩ => ?_⟩
            obtain ⟨d, hd, dd⟩ := al.atV (ey _ r)
            obtain ⟨d2, hd2, dd2⟩ := al2.atV (ew _ r2)
            refine ⟨.tuple [d, d2], ?_, by simp only [if_true]; exact ⟨T, _, _, ex, nT, eH, rfl, .cons (Dq_mono s1 _ _ dd) (.cons (Dq_mono s1 _ _ dd2) .nil)⟩⟩
            unfold zipD
            rw [List.getElem?_map, List.getElem?_zip_eq_some (z := (d, d2)) |>.mpr ⟨hd, hd2⟩]; rfl
  · exact z.elim
end
end DL

set_option Elab.async false
set_option linter.all false
set_option maxRecDepth 100000
set_option maxHeartbeats 4000000
/-! DL, part h: list comprehensions. -/
namespace DL
open PySem PySem.Spec L2
def wipeE (e : LE) : List Nat → LE
  | [] => e
  | v :: vs => (wipeE e vs).set v none
def cmp1 (vs : List Nat) (tgt : D → LE → Option LE) (test : M Bool) (elt : M D) : List D → M (List D)
  | [] => ret []
  | d :: ds => fun e => match tgt d (wipeE e vs) with
    | some e1 => (bnd test fun b => if b = true then bnd elt fun y => bnd (cmp1 vs tgt test elt ds) fun ys => ret (y :: ys) else cmp1 vs tgt test elt ds) e1
    | none => .no
def mComp (vs : List Nat) (tgt : D → LE → Option LE) (test : M Bool) (elt : M D) (src : M (List D)) : M Cell := bnd src fun ds e => match (if ds.length ≤ 16777216 then cmp1 vs tgt test elt ds e else .no) with
  | .ok ys e' => .ok (.ow ys) (wipeE e' vs)
  | _ => .no
abbrev W0 : WX := fun _ _ _ _ => False
section
variable (X : Cx)
def TX (lo : Bool) (tg : Expr) (ts : List Nat) (f : D → LE → Option LE) : Prop := ∃ t, PG X tg t ∧ ∀ (F H : Hp) (σ : L2.St) (env e' : LE) (fp : FP) (v : V) (d : D) (Q : L2.St → Hp → Prop), LOk X.K X.mg F H σ env fp →
  (if lo = true then ∃ T vs es, v = .ref T ∧ SqT X.K H T vs ∧ d = .tuple es ∧ DqAll X.K F vs es else Dq X.K F v d) → f d env = some e' →
  (∀ σ' fp', LOk X.K X.mg F H σ' e' fp' → Mv true F H fp F H fp' → SetOn ts σ σ' → Q σ' H) → t v σ H Q
def ETs (W : WX) (p : Bool) (ifs : List Expr) (f : M Bool) : Prop := ∃ t, PTs X ifs t ∧ ∀ (F H : Hp) (σ : L2.St) (env : LE) (fp : FP) (Q : Bool → Hp → Prop), LOk X.K X.mg F H σ env fp →
  wpE X W p F H σ fp (f env) (fun b _ _ H' _ => Q b H') → t σ H Q
end
section
variable {X : Cx} {W : WX} {p fz lo : Bool} {e elt tg iter c : Expr} {ifs : List Expr} {pos : Pos}
theorem TJ.tx {ts : List Nat} {f : D → LE → Option LE} (h : TJ X tg ts f) : TX X false tg ts f := by
  obtain ⟨t, h, k⟩ := h
  refine ⟨t, h, fun F H σ env e' fp v d Q L hd => ?_⟩
  simp only [Bool.false_eq_true, if_false] at hd
  exact k F H σ env e' fp v d Q L hd
theorem TL.tx {is : List Nat} (h : TL X tg is (setAll is)) : TX X true tg is (setT is) := by
  obtain ⟨t, h, k⟩ := h
  refine ⟨t, h, fun F H σ env e' fp v d Q L hd he q => ?_⟩
  simp only [if_true] at hd
  obtain ⟨T, vs, es, rfl, hs, rfl, hd⟩ := hd
  exact k F H σ env e' fp T vs es Q L hs hd he q
theorem ets_nil : ETs X W p [] (ret true) := ⟨_, pts_nil, fun F H σ env fp Q L P => P.ret L⟩
theorem ets_one {f : M Bool} (h : ET X W p c f) : ETs X W p [c] f := by
  obtain ⟨t, h, k⟩ := h
  exact ⟨t, pts_one h, k⟩
theorem PE.imp {t t' : TE} (h : PE X e t) (i : ∀ σ H Q, t' σ H Q → t σ H Q) : PE X e t' := ⟨fun pins s σ H Q I hw => h.run pins s σ H Q I (i _ _ _ hw)⟩
theorem PTs.imp {t t' : TT} (h : PTs X ifs t) (i : ∀ σ H Q, t' σ H Q → t σ H Q) : PTs X ifs t' := ⟨fun pins s σ H Q I hw => h.run pins s σ H Q I (i _ _ _ hw)⟩
theorem PG.imp {t t' : TG} (h : PG X tg t) (i : ∀ v σ H Q, t' v σ H Q → t v σ H Q) : PG X tg t' := ⟨fun pins s σ H v u Q I r hw => h.run pins s σ H v u Q I r (i _ _ _ _ hw)⟩
/-- one reading for all contexts -/
theorem uniE {ι : Type} {Y : ι → Cx} {R : TE → Prop} (hR : ∀ (ts : ι → TE), (∀ i, R (ts i)) → R (fun σ H Q => ∀ i, ts i σ H Q)) (h : ∀ i, ∃ t, PE (Y i) e t ∧ R t) : ∃ t, (∀ i, PE (Y i) e t) ∧ R t :=
  ⟨fun σ H Q => ∀ i, Classical.choose (h i) σ H Q, fun i => PE.imp (Classical.choose_spec (h i)).1 fun σ H Q z => z i, hR _ fun i => (Classical.choose_spec (h i)).2⟩
theorem uniT {ι : Type} {Y : ι → Cx} {R : TT → Prop} (hR : ∀ (ts : ι → TT), (∀ i, R (ts i)) → R (fun σ H Q => ∀ i, ts i σ H Q)) (h : ∀ i, ∃ t, PTs (Y i) ifs t ∧ R t) : ∃ t, (∀ i, PTs (Y i) ifs t) ∧ R t :=
  ⟨fun σ H Q => ∀ i, Classical.choose (h i) σ H Q, fun i => PTs.imp (Classical.choose_spec (h i)).1 fun σ H Q z => z i, hR _ fun i => (Classical.choose_spec (h i)).2⟩
theorem uniG {ι : Type} {Y : ι → Cx} {R : TG → Prop} (hR : ∀ (ts : ι → TG), (∀ i, R (ts i)) → R (fun v σ H Q => ∀ i, ts i v σ H Q)) (h : ∀ i, ∃ t, PG (Y i) tg t ∧ R t) : ∃ t, (∀ i, PG (Y i) tg t) ∧ R t :=
  ⟨fun v σ H Q => ∀ i, Classical.choose (h i) v σ H Q, fun i => PG.imp (Classical.choose_spec (h i)).1 fun v σ H Q z => z i, hR _ fun i => (Classical.choose_spec (h i)).2⟩
/-! ### the slots of a block forgotten -/
theorem wipeE_get {e : LE} {j : Nat} : ∀ {vs : List Nat}, (wipeE e vs)[j]? = if j ∈ vs ∧ j < e.length then some none else e[j]?
  | [] => by simp [wipeE]
  | v :: vs => by
    have hl : (wipeE e vs).length = e.length := by
      clear j
      induction vs with
      | nil => rfl
      | cons v vs ih => unfold wipeE; rw [List.length_set, ih]
    unfold wipeE
    by_cases q : v = j
    · subst q
      by_cases h : v < e.length
      · rw [List.getElem?_set_self (by rw [hl]; exact h), if_pos ⟨List.mem_cons_self, h⟩]
      · rw [if_neg (fun z => h z.2), List.getElem?_eq_none (by rw [List.length_set, hl]; omega), List.getElem?_eq_none (by omega)]
    · rw [List.getElem?_set_ne q, wipeE_get]
      by_cases h : j ∈ vs
      · simp [h]
      · simp [h, Ne.symm q]
theorem wipeE_length {e : LE} : ∀ {vs : List Nat}, (wipeE e vs).length = e.length
  | [] => rfl
  | v :: vs => by unfold wipeE; rw [List.length_set, wipeE_length]
def wipeF (fp : FP) (vs : List Nat) : FP := fun j => if j ∈ vs then [] else fp j
theorem U_wipeF {fp : FP} {vs : List Nat} {a : Addr} (h : U (wipeF fp vs) a) : U fp a := by
  obtain ⟨j, hj⟩ := h
  unfold wipeF at hj
  split at hj
  · cases hj
  · exact ⟨j, hj⟩
section
variable {K : PySem.W.Frag} {mg : Str → Option Value} {F H F1 H1 F2 H2 : Hp} {σ : L2.St} {env : LE} {fp fp1 fp2 : FP}
/-- forgetting, on our side; on both -/
theorem LOk.wipeL (L : LOk K mg F H σ env fp) (vs : List Nat) : LOk K mg F H σ (wipeE env vs) (wipeF fp vs) := by
  refine ⟨L.same, fun i c q => ?_, fun i q => ?_, fun i j a hij hi hj => ?_, by rw [wipeE_length]; exact L.len, L.tab, L.ntf⟩
  · rw [wipeE_get] at q
    split at q
    · cases q
    · rename_i h
      have hi : i ∉ vs := fun z => h ⟨z, lt_of_get q⟩
      obtain ⟨v, h1, h2⟩ := L.slot i c q
      exact ⟨v, h1, by unfold wipeF; rw [if_neg hi]; exact h2⟩
  · unfold wipeF
    split
    · rfl
    · rename_i hi
      exact L.emp i fun c z => q c (by rw [wipeE_get, if_neg (fun w => hi w.1)]; exact z)
  · unfold wipeF at hi hj
    split at hi
    · cases hi
    · split at hj
      · cases hj
      · exact L.dis i j a hij hi hj
theorem LOk.wipeB (L : LOk K mg F H σ env fp) (vs : List Nat) : LOk K mg F H (wipe σ vs) (wipeE env vs) (wipeF fp vs) := by
  have L' := L.wipeL vs
  refine ⟨L'.same, fun i c q => ?_, L'.emp, L'.dis, by rw [wipe_length, wipeE_length]; exact L.len, L'.tab, L'.ntf⟩
  obtain ⟨v, h1, h2⟩ := L'.slot i c q
  refine ⟨v, ?_, h2⟩
  rw [wipe_get]
  rw [wipeE_get] at q
  split at q
  · cases q
  · rename_i h
    rw [if_neg (by rw [L.len]; exact h)]; exact h1
/-- .. and back: the slots of σ that the block forgot are none of ours -/
theorem LOk.unwipe (L : LOk K mg F H (wipe σ vs) env fp) (h : ∀ i ∈ vs, ∀ c, env[i]? ≠ some (some c)) : LOk K mg F H σ env fp := by
  refine ⟨L.same, fun i c q => ?_, L.emp, L.dis, by rw [← L.len, wipe_length], L.tab, L.ntf⟩
  obtain ⟨v, h1, h2⟩ := L.slot i c q
  rw [wipe_get] at h1
  split at h1
  · cases h1
  · exact ⟨v, h1, h2⟩
theorem Mv.wipeF {vs : List Nat} (m : Mv p F H fp F1 H1 fp1) : Mv p F H fp F1 H1 (DL.wipeF fp1 vs) := ⟨m.f, m.h, m.n, fun a u => m.u a (U_wipeF u), m.d⟩
/-- a new list D that no slot holds is written -/
theorem Mv.updNew {D : Addr} {o : HO} (m : Mv p F H fp F1 H1 fp1) (hD : H D = none) : Mv p F H fp F1 (upd H1 D o) fp1 :=
  ⟨m.f, fun a ob e nt q => by rw [upd_ne (fun z => by rw [z, hD] at e; cases e)]; exact m.h a ob e nt q, m.n, m.u, fun a e => m.d a (dom_upd a e)⟩
theorem LOk.updNew {D : Addr} {o : HO} (L : LOk K mg F H σ env fp) (hF : F D = none) (hU : ¬ U fp D) (hn : H D = none ∨ ∃ o0, H D = some o0 ∧ NO o0) : LOk K mg F (upd H D o) σ env fp :=
  L.ext (Same.refl _) (fun a ob e => by rw [upd_ne (fun z => by rw [z, hF] at e; cases e)]; exact L.same _ _ e) (fun a ob u e _ => by rw [upd_ne (fun z => hU (by rw [← z]; exact u))]; exact e) (fun a u => (L.free u).1) (L.tab.step (.upd hn)) L.ntf
theorem Mv.keeps {D : Addr} {o : HO} (m : Mv true F H fp F1 H1 fp1) (hF : F D = none) (hU : ¬ U fp D) (hH : H D = some o) (nt : NT o) : F1 D = none ∧ ¬ U fp1 D ∧ H1 D = some o := by
  refine ⟨?_, fun u => ?_, m.h D o hH nt (fun z => by cases z)⟩
  · cases q : F1 D with
    | none => rfl
    | some x =>
      rcases m.n D x q with e | e | u
      · rw [hF] at e; cases e
      · rw [hH] at e; cases e
      · exact absurd u hU
  · rcases m.u D u with u | e
    · exact hU u
    · rw [hH] at e; cases e
end
theorem cmp1_cons {vs : List Nat} {tgt : D → LE → Option LE} {test : M Bool} {el : M D} {d : D} {ds : List D} {e e' : LE} {ys : List D} (h : cmp1 vs tgt test el (d :: ds) e = .ok ys e') :
    ∃ e1, tgt d (wipeE e vs) = some e1 ∧ ∃ b e2, test e1 = .ok b e2 ∧ ((b = false ∧ cmp1 vs tgt test el ds e2 = .ok ys e') ∨ (b = true ∧ ∃ y e3 ys', el e2 = .ok y e3 ∧ cmp1 vs tgt test el ds e3 = .ok ys' e' ∧ ys = y :: ys')) := by
  simp only [cmp1] at h
  split at h
  · rename_i e1 h1
    refine ⟨e1, h1, ?_⟩
    unfold bnd at h
    cases ht : test e1 with
    | ok b e2 =>
      rw [ht] at h
      refine ⟨b, e2, rfl, ?_⟩
      cases b with
      | false =>
        simp only [Bool.false_eq_true, if_false] at h
        exact .inl ⟨rfl, h⟩
      | true =>
        simp only [if_true] at h
        cases he : el e2 with
        | ok y e3 =>
          rw [he] at h
          simp only at h
          cases hr : cmp1 vs tgt test el ds e3 with
          | ok ys' e4 =>
            rw [hr] at h
            simp only [ret, Re.ok.injEq] at h
            obtain ⟨h1, h2⟩ := h
            subst h1 h2
            exact .inr ⟨rfl, y, e3, ys', rfl, hr, rfl⟩
          | ex _ _ => rw [hr] at h; cases h
          | no => rw [hr] at h; cases h
        | ex _ _ => rw [he] at h; cases h
        | no => rw [he] at h; cases h
    | ex _ _ => rw [ht] at h; cases h
    | no => rw [ht] at h; cases h
  · cases h
/-- the reading of a comprehension -/
theorem rd_comp {vs ts : List Nat} {wi : TI} {g : TG} {tt : TT} {te : TE} {fi : M (List D)} {tgt : D → LE → Option LE} {test : M Bool} {el : M D}
    (ki : ∀ (F H : Hp) (σ : L2.St) (env : LE) (fp : FP) (R : It → Hp → Prop), LOk X.K X.mg F H σ env fp → wpE X W p F H σ fp (fi env) (fun ds _ F' H' _ => ∀ J, Stp X fz lo F' H' J ds → R J H') → wi σ H R)
    (kg : ∀ (F H : Hp) (σ : L2.St) (env e' : LE) (fp : FP) (v : V) (d : D) (Q : L2.St → Hp → Prop), LOk X.K X.mg F H σ env fp → (if lo = true then ∃ T vs es, v = .ref T ∧ SqT X.K H T vs ∧ d = .tuple es ∧ DqAll X.K F vs es else Dq X.K F v d) → tgt d env = some e' →
      (∀ σ' fp', LOk X.K X.mg F H σ' e' fp' → Mv true F H fp F H fp' → SetOn ts σ σ' → Q σ' H) → g v σ H Q)
    (kt : ∀ (F H : Hp) (σ : L2.St) (env : LE) (fp : FP) (Q : Bool → Hp → Prop), LOk X.K X.mg F H σ env fp → wpE X W0 true F H σ fp (test env) (fun b _ _ H' _ => Q b H') → tt σ H Q)
    (ke : ∀ (F H : Hp) (σ : L2.St) (env : LE) (fp : FP) (Q : VK), LOk X.K X.mg F H σ env fp → wpE X W0 true F H σ fp (el env) (fun d _ F' H' _ => ∀ v, Dq X.K F' v d → Q v H') → te σ H Q)
    (hts : ∀ i ∈ ts, i ∈ vs) : RdC X W p (tLc wi g tt te vs) (mComp vs tgt test el fi) := by
  intro F H σ env fp Q L P
  refine ki F H σ env fp _ L (P.bnd.imp fun ds e1 F1 H1 fp1 m1 L1 z J hJ N hN => ?_)
  split at z
  case h_2 => exact z.elim
  rename_i ysAll eEnd hc
  split at hc
  case isFalse => cases hc
  rename_i hlen
  have hF1 : F1 N = none := by
    cases q : F1 N with
    | none => rfl
    | some o => have z := L1.same _ _ q; rw [hN] at z; cases z
  have hU1 : ¬ U fp1 N := fun u => by
    obtain ⟨_, ob, z, _⟩ := L1.free u
    rw [hN] at z; cases z
  -- the invariant
  refine ⟨fun i m Hc => m = ds.length - i ∧ i ≤ ds.length ∧ ∃ (F2 : Hp) (e2 : LE) (fp2 : FP) (acc : List V) (accd rest : List D), Hc N = some (.lst acc) ∧ F2 N = none ∧ ¬ U fp2 N ∧ DqAll X.K F2 acc accd ∧ accd.length ≤ i ∧
      LOk X.K X.mg F2 Hc (wipe σ vs) (wipeE e2 vs) fp2 ∧ Mv true F1 H1 fp1 F2 Hc fp2 ∧ cmp1 vs tgt test el (ds.drop i) e2 = .ok rest eEnd ∧ ysAll = accd ++ rest, ⟨ds.length, by simp, Nat.zero_le _, F1, e1, wipeF fp1 vs, [], [], ysAll, upd_same, hF1, fun u => hU1 (U_wipeF u), .nil, Nat.le_refl _, ?_, ?_, hc, rfl⟩, ?_⟩
  · exact (L1.wipeB vs).updNew hF1 (fun u => hU1 (U_wipeF u)) (.inl hN)
  · exact ((Mv.refl true F1 H1 fp1).wipeF).updNew hN
  rintro i m Hc ⟨rfl, hi, F2, e2, fp2, acc, accd, rest, hHD, hFD, hUD, hacc, hal, L2', m2, hcm, hys⟩
  have sHc : LamX.ExtN H1 Hc := fun a o e nt => m2.h a o e nt (fun z => by cases z)
  obtain ⟨js, jg, jy⟩ := hJ F2 Hc m2.f L2'.same (fun _ => sHc) i
  by_cases hlt : i < ds.length
  · refine .inr ⟨jg hlt, fun H' => ∃ (F2 : Hp) (e2 : LE) (fp2 : FP) (acc : List V) (accd rest : List D), H' N = some (.lst acc) ∧ F2 N = none ∧ ¬ U fp2 N ∧ DqAll X.K F2 acc accd ∧ accd.length ≤ i + 1 ∧
      LOk X.K X.mg F2 H' (wipe σ vs) (wipeE e2 vs) fp2 ∧ Mv true F1 H1 fp1 F2 H' fp2 ∧ cmp1 vs tgt test el (ds.drop (i + 1)) e2 = .ok rest eEnd ∧ ysAll = accd ++ rest, fun H' h => ⟨ds.length - (i + 1), by omega, rfl, hlt, h⟩, fun x H3 hy => ?_⟩
    obtain ⟨d, hd, hx⟩ := jy x H3 hlt hy
    have hdrop : ds.drop i = d :: ds.drop (i + 1) := by
      obtain ⟨h1, h2⟩ := List.getElem?_eq_some_iff.mp hd
      rw [← h2]; exact List.drop_eq_getElem_cons h1
    rw [hdrop] at hcm
    obtain ⟨e3, ht3, b, e4, hb4, hcase⟩ := cmp1_cons hcm
    -- the item's own heap
    have item : ∃ mv : Mv true F2 Hc fp2 F2 H3 fp2, LOk X.K X.mg F2 H3 (wipe σ vs) (wipeE e2 vs) fp2 ∧ (if lo = true then ∃ T vs es, x = .ref T ∧ SqT X.K H3 T vs ∧ d = .tuple es ∧ DqAll X.K F2 vs es else Dq X.K F2 x d) := by
      cases lo with
      | true =>
        simp only [if_true] at hx ⊢
        obtain ⟨T, vs', es, rfl, nT, rfl, rfl, al⟩ := hx
        obtain ⟨L3, m3, _⟩ := L2'.newO (o := .tup vs') nT
        exact ⟨m3, L3, T, vs', es, rfl, .inl (.inl upd_same), rfl, al⟩
      | false =>
        simp only [Bool.false_eq_true, if_false] at hx ⊢
        obtain ⟨rfl, hx⟩ := hx
        exact ⟨Mv.refl _ _ _ _, L2', hx⟩
    obtain ⟨m3, L3, hx3⟩ := item
    obtain ⟨hF3, hU3, hH3⟩ := m3.keeps hFD hUD hHD (fun _ z => by cases z)
    refine kg F2 H3 (wipe σ vs) (wipeE e2 vs) e3 fp2 x d _ L3 hx3 ht3 fun σ4 fp4 L4 m4 so => ?_
    have hw : wipe σ4 vs = wipe σ vs := (so.wipe hts).trans wipe_wipe
    refine ⟨hw, kt F2 H3 σ4 e3 fp4 _ L4 ?_⟩
    rw [hb4]
    intro F5 H5 fp5 m5 L5
    have m345 := (m3.trans m4).trans m5
    cases b with
    | false =>
      simp only [Bool.false_eq_true, if_false]
      rcases hcase with ⟨_, hc5⟩ | ⟨z, _⟩
      · obtain ⟨hF5, hU5, hH5⟩ := m345.keeps hFD hUD hHD (fun _ z => by cases z)
        refine ⟨F5, e4, wipeF fp5 vs, acc, accd, rest, hH5, hF5, fun u => hU5 (U_wipeF u), DqAll_mono m345.f _ _ hacc, by omega, ?_, (m2.trans m345).wipeF, hc5, hys⟩
        have := L5.wipeB vs
        rwa [hw] at this
      · cases z
    | true =>
      simp only [if_true]
      rcases hcase with ⟨z, _⟩ | ⟨_, y, e6, ys', he6, hc6, hy6⟩
      · cases z
      · refine ke F5 H5 σ4 e4 fp5 _ L5 ?_
        rw [he6]
        intro F7 H7 fp7 m7 L7 w hwd
        have m57 := m345.trans m7
        obtain ⟨hF7, hU7, hH7⟩ := m57.keeps hFD hUD hHD (fun _ z => by cases z)
        have la := hacc.len
        refine ⟨acc, hH7, by rw [la, sizeLine_eq]; omega, F7, e6, wipeF fp7 vs, acc ++ [w], accd ++ [y], ys', upd_same, hF7, fun u => hU7 (U_wipeF u), (DqAll_mono m57.f _ _ hacc).append (.cons hwd .nil), by simp; omega, ?_, ((m2.trans m57).wipeF).updNew hN, hc6, by rw [hys, hy6]; simp⟩
        have := (L7.wipeB vs).updNew (o := .lst (acc ++ [w])) hF7 (fun u => hU7 (U_wipeF u)) (.inr ⟨_, hH7, .lst⟩)
        rwa [hw] at this
  · have hi' : i = ds.length := by omega
    refine .inl ⟨js (by omega), ?_⟩
    subst hi'
    rw [List.drop_length] at hcm
    simp only [cmp1, ret, Re.ok.injEq] at hcm
    obtain ⟨h1, h2⟩ := hcm
    subst h1 h2
    rw [List.append_nil] at hys
    subst hys
    refine (z.le (p := true) (fun _ => rfl)) F2 Hc (wipeF fp2 vs) m2.wipeF (LOk.unwipe (vs := vs) (L2'.wipeL vs |> fun q => ?_) ?_) (.ref N) ⟨[N], .ow hFD hHD hacc, fun a ha u => ?_, fun a ha => ?_⟩
    · have ww : wipeE (wipeE e2 vs) vs = wipeE e2 vs := by
        apply List.ext_getElem?
        intro j
        rw [wipeE_get, wipeE_length, wipeE_get]
        by_cases h : j ∈ vs ∧ j < e2.length
        · rw [if_pos h, if_pos h]
        · rw [if_neg h]
      rw [ww] at q
      exact q
    · intro j hj c q
      rw [wipeE_get] at q
      split at q
      · cases q
      · rename_i h; exact h ⟨hj, lt_of_get q⟩
    · simp at ha; subst ha; exact hUD (U_wipeF u)
    · simp at ha; subst ha
      by_cases u : U fp a
      · exact .inl u
      · refine .inr ?_
        exact m1.d a hN
end
end DL

set_option Elab.async false
set_option linter.all false
set_option maxRecDepth 100000
set_option maxHeartbeats 4000000
/-! DL, part i: statements. -/
namespace DL
open PySem PySem.Spec L2
abbrev ST := LE → Out
def Ro (ro : List Nat) (σ σ' : L2.St) : Prop := ∀ i ∈ ro, σ'[i]? = σ[i]?
section
variable (X : Cx) (W : WX) (ro : List Nat)
def wpS (F H : Hp) (σ : L2.St) (fp : FP) (N : Ends) : Out → Prop
  | .nx e => ∀ σ' F' H' fp', Mv false F H fp F' H' fp' → LOk X.K X.mg F' H' σ' e fp' → Ro ro σ σ' → N.nx σ' H'
  | .rt c e => ∀ v σ' F' H' fp', Mv false F H fp F' H' fp' → LOk X.K X.mg F' H' σ' e fp' → Ro ro σ σ' → NewC X F H fp F' H' fp' v c → N.rt v H'
  | .bk e => ∀ σ' F' H' fp', Mv false F H fp F' H' fp' → LOk X.K X.mg F' H' σ' e fp' → Ro ro σ σ' → N.bk σ' H'
  | .ct e => ∀ σ' F' H' fp', Mv false F H fp F' H' fp' → LOk X.K X.mg F' H' σ' e fp' → Ro ro σ σ' → N.ct σ' H'
  | .ex c e => ∀ C σ' F' H' fp', X.mg c = some (.ref C) → Mv false F H fp F' H' fp' → LOk X.K X.mg F' H' σ' e fp' → Ro ro σ σ' → W (.ref C) none σ' H'
  | .no => False
def SJ (st : Stmt) (f : ST) : Prop := ∃ t, PS X st t ∧ ∀ (F H : Hp) (σ : L2.St) (env : LE) (fp : FP) (N : Ends), LOk X.K X.mg F H σ env fp → wpS X W ro F H σ fp N (f env) → t N σ H
def SJs (st : List Stmt) (f : ST) : Prop := ∃ t, PSs X st t ∧ ∀ (F H : Hp) (σ : L2.St) (env : LE) (fp : FP) (N : Ends), LOk X.K X.mg F H σ env fp → wpS X W ro F H σ fp N (f env) → t N σ H
end
def sE {α : Type} (f : M α) (k : α → ST) : ST := fun e => match f e with
  | .ok a e' => k a e'
  | .ex c e' => .ex c e'
  | .no => .no
def sSeq (f g : ST) : ST := fun e => match f e with
  | .nx e' => g e'
  | r => r
def sNil : ST := fun e => .nx e
def sRet (f : M Cell) : ST := sE f fun c e => .rt c e
def sRetN : ST := fun e => .rt (.fz .none) e
def sDrop (f : M Cell) : ST := sE f fun _ e => .nx e
def stC (i : Nat) (c : Cell) : ST := fun e => if i < e.length then .nx (e.set i (some c)) else .no
def sSet (i : Nat) (f : M Cell) : ST := sE f (stC i)
def stU (is : List Nat) (d : D) : ST := fun e => match setT is d e with
  | some e2 => .nx e2
  | none => .no
def sUn (is : List Nat) (f : M D) : ST := sE f (stU is)
def sIf (c : M Bool) (f g : ST) : ST := sE c fun b => if b = true then f else g
def sBrk : ST := fun e => .bk e
def sCont : ST := fun e => .ct e
def sFor1 (tgt : D → LE → Option LE) (body : ST) : List D → ST
  | [], e => .nx e
  | d :: ds, e => match tgt d e with
    | some e1 => (match body e1 with
      | .nx e2 => sFor1 tgt body ds e2
      | .ct e2 => sFor1 tgt body ds e2
      | .bk e2 => .nx e2
      | .rt c e2 => .rt c e2
      | .ex c e2 => .ex c e2
      | .no => .no)
    | none => .no
def sFor (tgt : D → LE → Option LE) (src : M (List D)) (body : ST) : ST := sE src (sFor1 tgt body)
/-- at most n turns -/
def sWh (c : M Bool) (body : ST) : Nat → ST
  | 0 => fun _ => .no
  | n + 1 => sE c fun b => if b = true then fun e1 => (match body e1 with
        | .nx e2 => sWh c body n e2
        | .ct e2 => sWh c body n e2
        | .bk e2 => .nx e2
        | .rt c e2 => .rt c e2
        | .ex c e2 => .ex c e2
        | .no => .no) else fun e1 => .nx e1
section
variable {X : Cx} {W : WX} {ro : List Nat} {p fz lo : Bool} {e elt tg iter c : Expr} {st : Stmt} {sts a b : List Stmt} {ifs : List Expr} {pos : Pos}
theorem Ro.rfl' (σ : L2.St) : Ro ro σ σ := fun _ _ => rfl
theorem Ro.trans {σ σ1 σ2 : L2.St} (a : Ro ro σ σ1) (b : Ro ro σ1 σ2) : Ro ro σ σ2 := fun i h => (b i h).trans (a i h)
theorem Ro.set {σ : L2.St} {i : Nat} {v : Option V} (h : i ∉ ro) : Ro ro σ (σ.set i v) := fun j hj => List.getElem?_set_ne (fun e => h (by rw [e]; exact hj))
theorem SetOn.toRo {ts : List Nat} {σ σ' : L2.St} (s : SetOn ts σ σ') (h : ∀ i ∈ ts, i ∉ ro) : Ro ro σ σ' := fun j hj => s.2 j fun z => h j z hj
theorem NewC.from {F H F1 H1 F' H' : Hp} {fp fp1 fp' : FP} {v : V} {c : Cell} (m : Mv p F H fp F1 H1 fp1) (n : NewC X F1 H1 fp1 F' H' fp' v c) : NewC X F H fp F' H' fp' v c := by
  obtain ⟨l, o, d, nw⟩ := n
  refine ⟨l, o, d, fun a ha => ?_⟩
  rcases nw a ha with u | e
  · exact m.u a u
  · by_cases u : U fp a
    · exact .inl u
    · exact .inr (m.d a e)
theorem wpS.from {F H F1 H1 : Hp} {fp fp1 : FP} {σ σ1 : L2.St} {N : Ends} {r : Out} (m : Mv false F H fp F1 H1 fp1) (hr : Ro ro σ σ1) (h : wpS X W ro F H σ fp N r) : wpS X W ro F1 H1 σ1 fp1 N r := by
  cases r with
  | nx e => exact fun σ' F' H' fp' m' L' r' => h σ' F' H' fp' (m.trans m') L' (hr.trans r')
  | rt c e => exact fun v σ' F' H' fp' m' L' r' n => h v σ' F' H' fp' (m.trans m') L' (hr.trans r') (n.from m)
  | bk e => exact fun σ' F' H' fp' m' L' r' => h σ' F' H' fp' (m.trans m') L' (hr.trans r')
  | ct e => exact fun σ' F' H' fp' m' L' r' => h σ' F' H' fp' (m.trans m') L' (hr.trans r')
  | ex c e => exact fun C σ' F' H' fp' hc m' L' r' => h C σ' F' H' fp' hc (m.trans m') L' (hr.trans r')
  | no => exact h
/-- an expression within a statement -/
theorem wpS.expr {α : Type} {F H : Hp} {fp : FP} {σ : L2.St} {env : LE} {N : Ends} {f : M α} {k : α → ST} (h : wpS X W ro F H σ fp N (sE f k env)) :
    wpE X W p F H σ fp (f env) (fun a e' F' H' fp' => wpS X W ro F' H' σ fp' N (k a e')) := by
  unfold sE at h
  cases e : f env with
  | ok a e' => rw [e] at h; exact fun F' H' fp' m L => wpS.from (m.le (fun z => by cases z)) (Ro.rfl' σ) h
  | ex c e' => rw [e] at h; exact fun C F' H' fp' hc m L => h C σ F' H' fp' hc m L (Ro.rfl' σ)
  | no => rw [e] at h; exact h
/-- .. whose value is told from the start -/
theorem wpS.expr0 {α : Type} {F H : Hp} {fp : FP} {σ : L2.St} {env : LE} {N : Ends} {f : M α} {k : α → ST} (h : wpS X W ro F H σ fp N (sE f k env)) :
    wpE X W p F H σ fp (f env) (fun a e' F' H' fp' => Mv p F H fp F' H' fp' ∧ wpS X W ro F H σ fp N (k a e')) := by
  unfold sE at h
  cases e : f env with
  | ok a e' => rw [e] at h; exact fun F' H' fp' m L => ⟨m, h⟩
  | ex c e' => rw [e] at h; exact fun C F' H' fp' hc m L => h C σ F' H' fp' hc m L (Ro.rfl' σ)
  | no => rw [e] at h; exact h
theorem wpS.skip {F H : Hp} {fp : FP} {σ : L2.St} {env : LE} {N : Ends} (L : LOk X.K X.mg F H σ env fp) (h : wpS X W ro F H σ fp N (.nx env)) : N.nx σ H := h σ F H fp (Mv.refl _ _ _ _) L (Ro.rfl' σ)
theorem ss_nil : SJs X W ro [] sNil := ⟨_, pss_nil, fun F H σ env fp N L P => P.skip L⟩
theorem ss_cons {f g : ST} (h1 : SJ X W ro st f) (h2 : SJs X W ro sts g) : SJs X W ro (st :: sts) (sSeq f g) := by
  obtain ⟨t, h1, k1⟩ := h1
  obtain ⟨u, h2, k2⟩ := h2
  refine ⟨_, pss_cons h1 h2, fun F H σ env fp N L P => k1 F H σ env fp _ L ?_⟩
  unfold sSeq at P
  cases e : f env with
  | nx e' => rw [e] at P; exact fun σ' F' H' fp' m L' r => k2 F' H' σ' e' fp' N L' (P.from m r)
  | rt c e' => rw [e] at P; exact P
  | bk e' => rw [e] at P; exact P
  | ct e' => rw [e] at P; exact P
  | ex c e' => rw [e] at P; exact P
  | no => rw [e] at P; exact P
theorem ss_one {f : ST} (h1 : SJ X W ro st f) : SJs X W ro [st] f := by
  obtain ⟨t, h1, k1⟩ := h1
  exact ⟨t, pss_one h1, k1⟩
theorem sj_doc {x j pos'} : SJ X W ro (.Expr (.Constant (.str x) j pos) pos') sNil := ⟨_, ps_doc, fun F H σ env fp N L P => P.skip L⟩
theorem sj_pass : SJ X W ro (.Pass pos) sNil := ⟨_, ps_pass, fun F H σ env fp N L P => P.skip L⟩
theorem sj_brk : SJ X W ro (.Break pos) sBrk := ⟨_, ps_break, fun F H σ env fp N L P => P σ F H fp (Mv.refl _ _ _ _) L (Ro.rfl' σ)⟩
theorem sj_cont : SJ X W ro (.Continue pos) sCont := ⟨_, ps_continue, fun F H σ env fp N L P => P σ F H fp (Mv.refl _ _ _ _) L (Ro.rfl' σ)⟩
theorem sj_ret {f : M Cell} (h : EC X W p e f) : SJ X W ro (.Return (some e) pos) (sRet f) := by
  obtain ⟨t, h, k⟩ := h
  refine ⟨_, ps_ret h, fun F H σ env fp N L P => k F H σ env fp _ L ((wpS.expr0 P).imp fun c e' F' H' fp' _ L' ⟨m, z⟩ v n => ?_)⟩
  exact z v σ F' H' fp' (m.le (fun z => by cases z)) L' (Ro.rfl' σ) n
theorem sj_retN : SJ X W ro (.Return none pos) sRetN := ⟨_, ps_retN, fun F H σ env fp N L P => P .non σ F H fp (Mv.refl _ _ _ _) L (Ro.rfl' σ) ⟨[], .fz .non, (fun _ m => by cases m), (fun _ m => by cases m)⟩⟩
theorem sj_drop {f : M Cell} (h : EC X W p e f) (hs : swapsWith e none pos.line X.env = pure false := by rfl) : SJ X W ro (.Expr e pos) (sDrop f) := by
  obtain ⟨t, h, k⟩ := h
  exact ⟨_, ps_expr h hs, fun F H σ env fp N L P => k F H σ env fp _ L ((wpS.expr P).imp fun c e' F' H' fp' m L' z v n => z.skip L')⟩
/-- a cell is stored -/
theorem storeC {F H F' H' : Hp} {fp fp' : FP} {σ : L2.St} {N : Ends} {i : Nat} {cl : Cell} {e' : LE} {v : V} (hi : i ∉ ro) (L' : LOk X.K X.mg F' H' σ e' fp') (n : NewC X F H fp F' H' fp' v cl)
    (m : Mv p F H fp F' H' fp') (z : wpS X W ro F H σ fp N (stC i cl e')) : N.nx (σ.set i (some v)) H' := by
  unfold stC at z
  split at z
  · rename_i hl
    obtain ⟨l, o, d, nw⟩ := n
    have L2' : LOk X.K X.mg F' H' (σ.set i (some v)) (e'.set i (some cl)) (fpSet fp' i l) := L'.set hl o (fun a ha j _ hj => d a ha ⟨j, hj⟩)
    have m' : Mv false F H fp F' H' fp' := m.le (fun z => by cases z)
    refine z (σ.set i (some v)) F' H' (fpSet fp' i l) ⟨m'.f, m'.h, m'.n, fun a u => ?_, m'.d⟩ L2' (Ro.set hi)
    rcases U_fpSet u with q | ⟨j, _, q⟩
    · exact nw a q
    · exact m'.u a ⟨j, q⟩
  · exact z.elim
theorem sj_set {i : Nat} {x : Str} {pos' : Pos} {f : M Cell} (hN : X.N.Nodup) (h : EC X W p e f) (hro : i ∉ ro := by decide) (hi : X.N[i]? = some x := by rfl) (hx : Loc X.env.scope x := by first | exact Or.inl rfl | exact Or.inr rfl) (hs : swapsWith e (some (.Name x pos')) pos.line X.env = pure false := by rfl)
    (hf : X.fn x = true ∨ X.env.scope.names.lookup x = some .local := by first | exact .inl rfl | exact .inr rfl) : SJ X W ro (.Assign [.Name x pos'] e pos) (sSet i f) := by
  obtain ⟨t, h, k⟩ := h
  exact ⟨_, ps_set hN hi hx h hs hf, fun F H σ env fp N L P => k F H σ env fp _ L ((wpS.expr0 P).imp fun c e' F' H' fp' _ L' ⟨m, z⟩ v n => storeC hro L' n m z)⟩
/-- a, b = e, e a frozen tuple -/
theorem sj_un {is : List Nat} {f : M D} (h : ES X W p e f) (hg : TL X tg is (setAll is)) (hro : ∀ i ∈ is, i ∉ ro := by decide) (hs : swapsWithSole [tg] e pos.line X.env = pure false := by rfl) (hw : swappedStores [tg] e X.env = pure none := by rfl)
    (h1 : (assignEach [tg] X.env).map (·.2) = [assign tg X.env] := by rfl) : SJ X W ro (.Assign [tg] e pos) (sUn is f) := by
  obtain ⟨t, h, k⟩ := h
  obtain ⟨u, hg, kg⟩ := hg.tj
  refine ⟨_, ps_asg h hg hs hw h1, fun F H σ env fp N L P => k F H σ env fp _ L ((wpS.expr P).imp fun d e' F' H' fp' m L' z v dv => ?_)⟩
  unfold stU at z
  split at z
  · rename_i e2 he
    exact kg F' H' σ e' e2 fp' v d _ L' dv he fun σ' fp2 L2' m2 so => z σ' F' H' fp2 m2.weak L2' (so.toRo hro)
  · exact z.elim
theorem sj_if {c : Expr} {fc : M Bool} {f g : ST} (hc : ET X W p c fc) (ha : SJs X W ro a f) (hb : SJs X W ro b g) : SJ X W ro (.If c a b pos) (sIf fc f g) := by
  obtain ⟨t, hc, k⟩ := hc
  obtain ⟨t1, ha, k1⟩ := ha
  obtain ⟨t2, hb, k2⟩ := hb
  refine ⟨_, ps_if hc ha hb, fun F H σ env fp N L P => k F H σ env fp _ L ((wpS.expr P).imp fun d e' F' H' fp' m L' z => ?_)⟩
  cases d with
  | true => simp only [if_true] at z ⊢; exact k1 F' H' σ e' fp' N L' z
  | false => simp only [Bool.false_eq_true, if_false] at z ⊢; exact k2 F' H' σ e' fp' N L' z
/-! ### for -/
theorem sj_for {ts : List Nat} {fi : M (List D)} {tgt : D → LE → Option LE} {f : ST} (hp : PassesOwn (model X.prog X.w) X.A X.env X.xe) (hc : X.calm = true) (hi : EI X W true lo p tg iter fi) (hg : TX X lo tg ts tgt) (hb : SJs X W ro a f) (hro : ∀ i ∈ ts, i ∉ ro := by decide)
    (hs : ∀ x, foldedSetIterable iter X.env x = pure x := by intro _; rfl) : SJ X W ro (.For tg iter a [] pos) (sFor tgt fi f) := by
  obtain ⟨wi, hi, ki⟩ := hi
  obtain ⟨g, hg, kg⟩ := hg
  obtain ⟨tb, hb, kb⟩ := hb
  refine ⟨_, ps_for hp hc hi hg hb hs, fun F H σ env fp N L P => ki F H σ env fp _ L ((wpS.expr P).imp fun ds e1 F1 H1 fp1 m1 L1 z J hJ => ?_)⟩
  refine ⟨fun i m σ2 H2 => m = ds.length - i ∧ i ≤ ds.length ∧ ∃ (F2 : Hp) (e2 : LE) (fp2 : FP), LOk X.K X.mg F2 H2 σ2 e2 fp2 ∧ Same F1 F2 ∧ wpS X W ro F2 H2 σ2 fp2 N (sFor1 tgt f (ds.drop i) e2), ⟨ds.length, by simp, Nat.zero_le _, F1, e1, fp1, L1, Same.refl _, z⟩, ?_⟩
  rintro i m σ2 H2 ⟨rfl, hi, F2, e2, fp2, L2', s2, z⟩
  obtain ⟨js, jg, jy⟩ := hJ F2 H2 s2 L2'.same (fun w => by cases w) i
  by_cases hlt : i < ds.length
  · refine .inr ⟨jg hlt, fun σ' H' => ∃ (F2 : Hp) (e2 : LE) (fp2 : FP), LOk X.K X.mg F2 H' σ' e2 fp2 ∧ Same F1 F2 ∧ wpS X W ro F2 H' σ' fp2 N (sFor1 tgt f (ds.drop (i + 1)) e2), fun σ' H' h => ⟨ds.length - (i + 1), by omega, rfl, hlt, h⟩, fun x H3 hy => ?_⟩
    obtain ⟨d, hd, hx⟩ := jy x H3 hlt hy
    have hdrop : ds.drop i = d :: ds.drop (i + 1) := by
      obtain ⟨h1, h2⟩ := List.getElem?_eq_some_iff.mp hd
      rw [← h2]; exact List.drop_eq_getElem_cons h1
    rw [hdrop] at z
    simp only [sFor1] at z
    split at z
    case h_2 => exact z.elim
    rename_i e3 ht3
    have item : ∃ mv : Mv true F2 H2 fp2 F2 H3 fp2, LOk X.K X.mg F2 H3 σ2 e2 fp2 ∧ (if lo = true then ∃ T vs es, x = .ref T ∧ SqT X.K H3 T vs ∧ d = .tuple es ∧ DqAll X.K F2 vs es else Dq X.K F2 x d) := by
      cases lo with
      | true =>
        simp only [if_true] at hx ⊢
        obtain ⟨T, vs', es, rfl, nT, rfl, rfl, al⟩ := hx
        obtain ⟨L3, m3, _⟩ := L2'.newO (o := .tup vs') nT
        exact ⟨m3, L3, T, vs', es, rfl, .inl (.inl upd_same), rfl, al⟩
      | false =>
        simp only [Bool.false_eq_true, if_false] at hx ⊢
        obtain ⟨rfl, hx⟩ := hx
        exact ⟨Mv.refl _ _ _ _, L2', hx⟩
    obtain ⟨m3, L3, hx3⟩ := item
    refine kg F2 H3 σ2 e2 e3 fp2 x d _ L3 hx3 ht3 fun σ4 fp4 L4 m4 so => kb F2 H3 σ4 e3 fp4 _ L4 ?_
    have z := z.from (m3.trans m4).weak (so.toRo hro)
    cases hf : f e3 with
    | nx e5 => rw [hf] at z; exact fun σ' F' H' fp' m' L' r' => ⟨F', e5, fp', L', s2.trans m'.f, z.from m' r'⟩
    | ct e5 => rw [hf] at z; exact fun σ' F' H' fp' m' L' r' => ⟨F', e5, fp', L', s2.trans m'.f, z.from m' r'⟩
    | bk e5 => rw [hf] at z; exact z
    | rt c e5 => rw [hf] at z; exact z
    | ex c e5 => rw [hf] at z; exact z
    | no => rw [hf] at z; exact z
  · have hi' : i = ds.length := by omega
    subst hi'
    rw [List.drop_length] at z
    exact .inl ⟨js (Nat.le_refl _), z.skip L2'⟩
/-! ### while -/
theorem sj_while {fc : M Bool} {f : ST} (n : Nat) (hp : PassesOwn (model X.prog X.w) X.A X.env X.xe) (hc : ET X W p c fc) (hb : SJs X W ro a f) : SJ X W ro (.While c a [] pos) (sWh fc f n) := by
  obtain ⟨t, hc, k⟩ := hc
  obtain ⟨tb, hb, kb⟩ := hb
  refine ⟨_, ps_while hp hc hb, fun F H σ env fp N L P => ?_⟩
  refine ⟨fun m σ2 H2 => ∃ (F2 : Hp) (e2 : LE) (fp2 : FP), LOk X.K X.mg F2 H2 σ2 e2 fp2 ∧ wpS X W ro F2 H2 σ2 fp2 N (sWh fc f m e2), ⟨n, F, env, fp, L, P⟩, ?_⟩
  rintro m σ2 H2 ⟨F2, e2, fp2, L2', z⟩
  cases m with
  | zero => exact z.elim
  | succ m =>
    refine k F2 H2 σ2 e2 fp2 _ L2' ((wpS.expr (k := fun b => if b = true then fun e1 => (match f e1 with
        | .nx e2 => sWh fc f m e2
        | .ct e2 => sWh fc f m e2
        | .bk e2 => .nx e2
        | .rt c e2 => .rt c e2
        | .ex c e2 => .ex c e2
        | .no => .no) else fun e1 => .nx e1) z).imp fun b e3 F3 H3 fp3 m3 L3 z => ?_)
    cases b with
    | false => simp only [Bool.false_eq_true, if_false] at z ⊢; exact z.skip L3
    | true =>
      simp only [if_true] at z ⊢
      refine ⟨fun σ' H' => ∃ (F2 : Hp) (e2 : LE) (fp2 : FP), LOk X.K X.mg F2 H' σ' e2 fp2 ∧ wpS X W ro F2 H' σ' fp2 N (sWh fc f m e2), fun σ' H' h => ⟨m, Nat.lt_succ_self _, h⟩, kb F3 H3 σ2 e3 fp3 _ L3 ?_⟩
      cases hf : f e3 with
      | nx e5 => rw [hf] at z; exact fun σ' F' H' fp' m' L' r' => ⟨F', e5, fp', L', z.from m' r'⟩
      | ct e5 => rw [hf] at z; exact fun σ' F' H' fp' m' L' r' => ⟨F', e5, fp', L', z.from m' r'⟩
      | bk e5 => rw [hf] at z; exact z
      | rt c e5 => rw [hf] at z; exact z
      | ex c e5 => rw [hf] at z; exact z
      | no => rw [hf] at z; exact z
/-! ### comprehensions, as values and stored -/
section
variable {scope : Scope} {own : List (Str × Nat)} {ts : List Nat} {fi : M (List D)} {tgt : D → LE → Option LE} {test : M Bool} {el : M D}
theorem comp_parts (hi : EI X W fz lo p tg iter fi) (hg : ∀ (s : Shared) (H : Hp) (C : Addr) (cl : List (Str × Addr)) (fp : List Addr), TX (X.blk s H scope (compEnvC scope cl C X.env) fp) lo tg ts tgt)
    (ht : ∀ (s : Shared) (H : Hp) (C : Addr) (cl : List (Str × Addr)) (fp : List Addr), ETs (X.blk s H scope (compEnvC scope cl C X.env) fp) W0 true ifs test)
    (he : ∀ (s : Shared) (H : Hp) (C : Addr) (cl : List (Str × Addr)) (fp : List Addr), ES (X.blk s H scope (compEnvC scope cl C X.env) fp) W0 true elt el) (hts : ∀ i ∈ ts, i ∈ own.map (·.2)) :
    ∃ wi g tt te, PI X tg iter wi ∧ (∀ (s : Shared) (H : Hp) (C : Addr) (cl : List (Str × Addr)) (fp : List Addr), PG (X.blk s H scope (compEnvC scope cl C X.env) fp) tg g) ∧ (∀ (s : Shared) (H : Hp) (C : Addr) (cl : List (Str × Addr)) (fp : List Addr), PTs (X.blk s H scope (compEnvC scope cl C X.env) fp) ifs tt) ∧
      (∀ (s : Shared) (H : Hp) (C : Addr) (cl : List (Str × Addr)) (fp : List Addr), PE (X.blk s H scope (compEnvC scope cl C X.env) fp) elt te) ∧ RdC X W p (tLc wi g tt te (own.map (·.2))) (mComp (own.map (·.2)) tgt test el fi) := by
  obtain ⟨wi, hi, ki⟩ := hi
  let ι := Shared × Hp × Addr × List (Str × Addr) × List Addr
  let Y : ι → Cx := fun i => X.blk i.1 i.2.1 scope (compEnvC scope i.2.2.2.1 i.2.2.1 X.env) i.2.2.2.2
  obtain ⟨g, hg, kg⟩ := uniG (ι := ι) (Y := Y) (tg := tg) (R := fun t => ∀ (F H : Hp) (σ : L2.St) (env e' : LE) (fp : FP) (v : V) (d : D) (Q : L2.St → Hp → Prop), LOk X.K X.mg F H σ env fp →
    (if lo = true then ∃ T vs es, v = .ref T ∧ SqT X.K H T vs ∧ d = .tuple es ∧ DqAll X.K F vs es else Dq X.K F v d) → tgt d env = some e' → (∀ σ' fp', LOk X.K X.mg F H σ' e' fp' → Mv true F H fp F H fp' → SetOn ts σ σ' → Q σ' H) → t v σ H Q)
    (fun tts h F H σ env e' fp v d Q L hd he q i => h i F H σ env e' fp v d Q L hd he q) (fun i => hg i.1 i.2.1 i.2.2.1 i.2.2.2.1 i.2.2.2.2)
  obtain ⟨tt, ht, kt⟩ := uniT (ι := ι) (Y := Y) (ifs := ifs) (R := fun t => ∀ (F H : Hp) (σ : L2.St) (env : LE) (fp : FP) (Q : Bool → Hp → Prop), LOk X.K X.mg F H σ env fp → wpE X W0 true F H σ fp (test env) (fun b _ _ H' _ => Q b H') → t σ H Q)
    (fun tts h F H σ env fp Q L P i => h i F H σ env fp Q L P) (fun i => ht i.1 i.2.1 i.2.2.1 i.2.2.2.1 i.2.2.2.2)
  obtain ⟨te, he, ke⟩ := uniE (ι := ι) (Y := Y) (e := elt) (R := fun t => ∀ (F H : Hp) (σ : L2.St) (env : LE) (fp : FP) (Q : VK), LOk X.K X.mg F H σ env fp → wpE X W0 true F H σ fp (el env) (fun d _ F' H' _ => ∀ v, Dq X.K F' v d → Q v H') → t σ H Q)
    (fun tts h F H σ env fp Q L P i => h i F H σ env fp Q L P) (fun i => he i.1 i.2.1 i.2.2.1 i.2.2.2.1 i.2.2.2.2)
  exact ⟨wi, g, tt, te, hi, fun s H C cl fp => hg (s, H, C, cl, fp), fun s H C cl fp => ht (s, H, C, cl, fp), fun s H C cl fp => he (s, H, C, cl, fp), rd_comp ki kg kt ke hts⟩
theorem ec_comp (own : List (Str × Nat)) (hc : X.calm = true) (hN : X.N.Nodup) (ok : BlkOk X.N X.env.scope scope own) (hi : EI X W fz lo p tg iter fi) (hg : ∀ (s : Shared) (H : Hp) (C : Addr) (cl : List (Str × Addr)) (fp : List Addr), TX (X.blk s H scope (compEnvC scope cl C X.env) fp) lo tg ts tgt)
    (ht : ∀ (s : Shared) (H : Hp) (C : Addr) (cl : List (Str × Addr)) (fp : List Addr), ETs (X.blk s H scope (compEnvC scope cl C X.env) fp) W0 true ifs test)
    (he : ∀ (s : Shared) (H : Hp) (C : Addr) (cl : List (Str × Addr)) (fp : List Addr), ES (X.blk s H scope (compEnvC scope cl C X.env) fp) W0 true elt el) (hts : ∀ i ∈ ts, i ∈ own.map (·.2) := by decide) (hs : ∀ x, foldedSetIterable iter X.env x = pure x := by intro _; rfl) :
    EC X W p (.ListComp elt [⟨tg, iter, ifs, 0⟩] scope pos) (mComp (own.map (·.2)) tgt test el fi) := by
  obtain ⟨wi, g, tt, te, h1, h2, h3, h4, k⟩ := comp_parts (own := own) hi hg ht he hts
  exact ⟨_, pe_lc hc hN h1 ok h2 h3 h4 hs, k⟩
theorem sj_setComp {i : Nat} {y : Str} {py spos : Pos} (own : List (Str × Nat)) (hc : X.calm = true) (hN : X.N.Nodup) (ok : BlkOk X.N X.env.scope scope own) (hsw : swapsWith (.ListComp elt [⟨tg, iter, ifs, 0⟩] scope pos) (some (.Name y py)) spos.line X.env = pure true)
    (hi : EI X W fz lo p tg iter fi) (hg : ∀ (s : Shared) (H : Hp) (C : Addr) (cl : List (Str × Addr)) (fp : List Addr), TX (X.blk s H scope (compEnvC scope cl C X.env) fp) lo tg ts tgt)
    (ht : ∀ (s : Shared) (H : Hp) (C : Addr) (cl : List (Str × Addr)) (fp : List Addr), ETs (X.blk s H scope (compEnvC scope cl C X.env) fp) W0 true ifs test)
    (he : ∀ (s : Shared) (H : Hp) (C : Addr) (cl : List (Str × Addr)) (fp : List Addr), ES (X.blk s H scope (compEnvC scope cl C X.env) fp) W0 true elt el) (hro : i ∉ ro := by decide) (hts : ∀ i ∈ ts, i ∈ own.map (·.2) := by decide) (hy : X.N[i]? = some y := by rfl) (hyl : X.env.scope.names.lookup y = some .local := by rfl)
    (hs : ∀ x, foldedSetIterable iter X.env x = pure x := by intro _; rfl) :
    SJ X W ro (.Assign [.Name y py] (.ListComp elt [⟨tg, iter, ifs, 0⟩] scope pos) spos) (sSet i (mComp (own.map (·.2)) tgt test el fi)) := by
  obtain ⟨wi, g, tt, te, h1, h2, h3, h4, k⟩ := comp_parts (own := own) hi hg ht he hts
  exact ⟨_, ps_setLc hc hN hy hyl hsw h1 ok h2 h3 h4 hs, fun F H σ env fp N L P => k F H σ env fp _ L ((wpS.expr0 P).imp fun c e' F' H' fp' _ L' ⟨m, z⟩ v n => storeC hro L' n m z)⟩
end
end
end DL

set_option Elab.async false
set_option linter.all false
set_option maxRecDepth 100000
set_option maxHeartbeats 4000000
/-! DL, part j: a list of our own is changed. -/
namespace DL
open PySem PySem.Spec L2

/-- the list of our own at slot i -/
def atO (i : Nat) (e : LE) : Option (List D) := match e[i]? with
  | some (some (.ow ds)) => some ds
  | _ => none
theorem atO_is {i : Nat} {e : LE} {ds : List D} (h : atO i e = some ds) : e[i]? = some (some (.ow ds)) := by
  unfold atO at h
  split at h
  · rename_i q; cases h; exact q
  · cases h
/-- a method that changes it -/
def mMut (i : Nat) (g : List D → List D → Option (D × List D)) (f : M (List D)) : M Cell := fun e => match atO i e with
  | some _ => (bnd f fun as => fun e1 => match (atO i e1).bind fun ds => g ds as with
    | some (r, ds') => .ok (.fz r) (e1.set i (some (.ow ds')))
    | none => .no) e
  | none => .no
def muAppend (ds : List D) : List D → Option (D × List D)
  | [d] => if ds.length < 16777216 then some (.none, ds ++ [d]) else none
  | _ => none
def muInsert (ds : List D) : List D → Option (D × List D)
  | [.int i, d] => if ds.length < 16777216 ∧ 0 ≤ i ∧ i < 2 ^ 63 then some (.none, ds.take i.toNat ++ [d] ++ ds.drop i.toNat) else none
  | _ => none
def muPop (ds : List D) : List D → Option (D × List D)
  | [] => match ds[ds.length - 1]? with
    | some y => some (y, ds.dropLast)
    | none => none
  | _ => none
def muPopAt (ds : List D) : List D → Option (D × List D)
  | [.int i] => if -(2 ^ 63) ≤ i ∧ i < 2 ^ 63 then (match seqIndex? i ds.length with
    | some k => (match ds[k]? with
      | some y => some (y, ds.eraseIdx k)
      | none => none)
    | none => none) else none
  | _ => none
def idxI (z : Int) : List Int → Option Nat
  | [] => none
  | y :: r => if y = z then some 0 else (idxI z r).map (· + 1)
def muRemove (ds : List D) : List D → Option (D × List D)
  | [.int k] => match intsOf ds with
    | some ns => (match idxI k ns with
      | some j => some (.none, (ns.eraseIdx j).map .int)
      | none => none)
    | none => none
  | _ => none
theorem idxI_is : ∀ {ys : List Int} {z : Int} {j : Nat}, idxI z ys = some j → ys[j]? = some z ∧ ∀ (m : Nat), m < j → ys[m]? ≠ some z
  | y :: r, z, j, h => by
    unfold idxI at h
    split at h
    · rename_i e
      cases h
      exact ⟨by rw [e]; rfl, fun m hm => absurd hm (Nat.not_lt_zero _)⟩
    · rename_i hz
      cases q : idxI z r with
      | none => rw [q] at h; cases h
      | some k =>
        rw [q] at h
        cases h
        obtain ⟨h1, h2⟩ := idxI_is q
        refine ⟨by simpa using h1, fun m hm e => ?_⟩
        cases m with
        | zero => exact hz (by simpa using e)
        | succ m => exact h2 m (Nat.lt_of_succ_lt_succ hm) (by simpa using e)
def rMu (X : Cx) (g : List D → List D → Option (D × List D)) : V → List V → Hp → VK → Prop := fun x vs H Q => ∃ F l xs ds as r ds', x = .ref l ∧ H l = some (.lst xs) ∧ DqAll X.K F xs ds ∧ DqAll X.K F vs as ∧ Same F H ∧ g ds as = some (r, ds') ∧
  ∀ v xs', Dq X.K F v r → DqAll X.K F xs' ds' → Q v (upd H l (.lst xs'))
section
variable {X : Cx} {W : WX} {ro : List Nat} {p q : Bool} {e c o : Expr} {es : List Expr} {pos : Pos}
theorem mu_append : MtR X "list.append" (rMu X muAppend) := by
  intro pins s σ H x vs v us Q I rx rs ⟨F, l, xs, ds, as, r, ds', hx, hl, hd, ha, sm, hg, z⟩
  cases ha with
  | nil => cases hg
  | cons h1 h2 =>
    cases h2 with
    | cons _ _ => cases hg
    | nil =>
      simp only [muAppend] at hg
      split at hg
      · rename_i hz
        cases hg
        exact mt_append pins s σ H x _ v us Q I rx rs ⟨l, xs, _, hx, rfl, hl, (show xs.length < 16777216 by rw [hd.len]; exact hz), z _ _ .non (hd.append (.cons h1 .nil))⟩
      · cases hg
theorem mu_insert : MtR X "list.insert" (rMu X muInsert) := by
  intro pins s σ H x vs v us Q I rx rs ⟨F, l, xs, ds, as, r, ds', hx, hl, hd, ha, sm, hg, z⟩
  cases ha with
  | nil => cases hg
  | cons h1 h2 =>
    cases h2 with
    | nil => simp only [muInsert, reduceCtorEq] at hg
    | cons h2 h3 =>
      cases h3 with
      | cons _ _ => simp only [muInsert, reduceCtorEq] at hg
      | nil =>
        cases h1 <;> simp only [muInsert, reduceCtorEq] at hg
        split at hg
        · rename_i hz
          cases hg
          exact mt_insert pins s σ H x _ v us Q I rx rs ⟨l, xs, _, _, hx, rfl, hl, (show xs.length < 16777216 by rw [hd.len]; exact hz.1), hz.2.1, hz.2.2, z _ _ .non (((hd.take _).append (.cons h2 .nil)).append (hd.drop _))⟩
        · cases hg
theorem mu_pop : MtR X "list.pop" (rMu X muPop) := by
  intro pins s σ H x vs v us Q I rx rs ⟨F, l, xs, ds, as, r, ds', hx, hl, hd, ha, sm, hg, z⟩
  cases ha with
  | cons _ _ => simp only [muPop, reduceCtorEq] at hg
  | nil =>
    simp only [muPop] at hg
    split at hg
    · rename_i y hy
      cases hg
      obtain ⟨w, hw, dw⟩ := hd.at hy
      refine mt_pop pins s σ H x _ v us Q I rx rs ⟨l, xs, w, hx, rfl, hl, by rw [hd.len]; exact hw, z _ _ dw ?_⟩
      rw [List.dropLast_eq_take, List.dropLast_eq_take, hd.len]
      exact hd.take _
    · cases hg
theorem mu_popAt : MtR X "list.pop" (rMu X muPopAt) := by
  intro pins s σ H x vs v us Q I rx rs ⟨F, l, xs, ds, as, r, ds', hx, hl, hd, ha, sm, hg, z⟩
  cases ha with
  | nil => simp only [muPopAt, reduceCtorEq] at hg
  | cons h1 h2 =>
    cases h2 with
    | cons _ _ => cases h1 <;> simp only [muPopAt, reduceCtorEq] at hg
    | nil =>
      cases h1 <;> simp only [muPopAt, reduceCtorEq] at hg
      split at hg
      · rename_i hz
        split at hg
        · rename_i k hk
          split at hg
          · rename_i y hy
            cases hg
            obtain ⟨w, hw, dw⟩ := hd.at hy
            exact mt_popAt pins s σ H x _ v us Q I rx rs ⟨l, xs, _, k, w, hx, rfl, hl, hz.1, hz.2, by rw [hd.len]; exact hk, hw, z _ _ dw (hd.eraseIdx k)⟩
          · cases hg
        · cases hg
      · cases hg
theorem intsOf_is {ds : List D} {ns : List Int} (h : intsOf ds = some ns) : ds = ns.map .int := by
  induction ds generalizing ns with
  | nil => simp only [intsOf, Option.some.injEq] at h; subst h; rfl
  | cons d r ih =>
    cases d <;> simp only [intsOf, reduceCtorEq] at h
    cases q : intsOf r with
    | none => rw [q] at h; cases h
    | some ms => rw [q] at h; cases h; rw [ih q]; rfl
theorem mu_remove : MtR X "list.remove" (rMu X muRemove) := by
  intro pins s σ H x vs v us Q I rx rs ⟨F, l, xs, ds, as, r, ds', hx, hl, hd, ha, sm, hg, z⟩
  cases ha with
  | nil => simp only [muRemove, reduceCtorEq] at hg
  | cons h1 h2 =>
    cases h2 with
    | cons _ _ => cases h1 <;> simp only [muRemove, reduceCtorEq] at hg
    | nil =>
      cases h1 <;> simp only [muRemove, reduceCtorEq] at hg
      split at hg
      · rename_i ns hn
        split at hg
        · rename_i j hj
          cases hg
          rw [intsOf_is hn] at hd
          have e := hd.ofInts
          subst e
          obtain ⟨j1, j2⟩ := idxI_is hj
          exact mt_remove pins s σ H x _ v us Q I rx rs ⟨l, ns, _, j, hx, rfl, hl, j1, j2, z _ _ .non (DqAll.ints _)⟩
        · cases hg
      · cases hg
/-- behind the arguments -/
theorem mut_go {i : Nat} {g : List D → List D → Option (D × List D)} {F H F1 H1 : Hp} {σ : L2.St} {fp fp1 : FP} {e1 : LE} {as : List D} {vs : List V} {v : V} {Q : VK} (L1 : LOk X.K X.mg F1 H1 σ e1 fp1) (hv : σ[i]? = some (some v)) (hvs : DqAll X.K F1 vs as)
    (P : wpE X W false F1 H1 σ fp1 (match (atO i e1).bind fun ds => g ds as with
      | some (r, ds') => Re.ok (.fz r) (e1.set i (some (.ow ds')))
      | none => .no) (fun c _ F' H' fp' => ∀ v, NewC X F H fp F' H' fp' v c → Q v H')) : rMu X g v vs H1 Q := by
  cases h0 : atO i e1 with
  | none => rw [h0] at P; exact P.elim
  | some ds =>
    rw [h0] at P
    cases h1 : g ds as with
    | none => simp only [Option.bind_some, h1] at P; exact P.elim
    | some rr =>
      obtain ⟨r, ds'⟩ := rr
      simp only [Option.bind_some, h1] at P
      have hc := atO_is h0
      obtain ⟨v', hv', ow⟩ := L1.slot i _ hc
      rw [hv] at hv'
      cases hv'
      generalize hl : fp1 i = l at ow
      cases ow with
      | ow f1 f2 f3 =>
        refine ⟨F1, _, _, ds, as, r, ds', rfl, f2, f3, hvs, L1.same, h1, fun v2 xs' d1 d2 => ?_⟩
        obtain ⟨L2', m2⟩ := L1.mut (o := .lst xs') (c' := .ow ds') (l' := [_]) hc hv (by rw [hl]; simp) (.ow f1 upd_same d2) (fun b hb => by rw [hl]; exact hb)
        exact P _ _ _ m2 L2' v2 ⟨[], .fz d1, (fun _ m => by cases m), (fun _ m => by cases m)⟩
theorem mut_ok {i : Nat} {F H : Hp} {σ : L2.St} {env : LE} {fp : FP} {ds : List D} (L : LOk X.K X.mg F H σ env fp) (h : atO i env = some ds) : ∃ l xs, σ[i]? = some (some (.ref l)) ∧ H l = some (.lst xs) := by
  obtain ⟨v, hv, ow⟩ := L.slot i _ (atO_is h)
  generalize fp i = z at ow
  cases ow with
  | ow f1 f2 f3 => exact ⟨_, _, hv, f2⟩
theorem ec_mut {id : String} {name x : Str} {apos npos : Pos} (i : Nat) {g : List D → List D → Option (D × List D)} {f : M (List D)} (slot : Slot "list" name id) (ty : typeOf (.builtin id) = pure (.type "method_descriptor")) (rule : MtR X id (rMu X g)) (ha : AC X W false (e :: es) f)
    (hN : X.N[i]? = some x := by rfl) (hv : Vis X.env.scope x := by first | exact Or.inl rfl | exact Or.inr (Or.inl rfl) | exact Or.inr (Or.inr rfl)) (hd : (x == ("__debug__" : Str)) = false := by decide) (hcd : (x == ("__classdict__" : Str)) = false := by decide)
    (hbase : attributeBase (.Name x npos) name X.env (eval (.Name x npos) X.env) = eval (.Name x npos) X.env := by rfl)
    (hfew : ((backTo pos (starEach (e :: es) X.env)).all (fun x => !x.1) && (backToKw pos (keywordEach [] X.env)).all (fun x => x.1.isSome)
      && decide ((e :: es).length + ([] : List Keyword).length + (if ([] : List Keyword).isEmpty then 0 else 1) < 30)) = true := by rfl)
    (hline : (apos.endLine == pos.line) = true := by rfl) (hs : starEach (e :: es) X.env = (false, eval e X.env) :: starEach es X.env := by rfl) (hplain : (backTo pos (starEach es X.env)).any (·.1) = false := by rfl) :
    EC X W false (.Call (.Attribute (.Name x npos) name apos) (e :: es) [] pos) (mMut i g f) := by
  obtain ⟨t, h, k⟩ := ha
  refine ⟨_, pe_bm F.plainAttrs_list slot ty rule (pe_var hN hv hd hcd) h hbase hfew hline hs hplain, fun F H σ env fp Q L P => ?_⟩
  unfold mMut at P
  cases h0 : atO i env with
  | none => rw [h0] at P; exact P.elim
  | some ds0 =>
    simp only [h0] at P
    obtain ⟨l, xs, hvl, hH⟩ := mut_ok L h0
    refine ⟨_, hvl, .inl ⟨rfl, _, .inl (Rd.of hH)⟩, k F H σ env fp _ L (P.bnd.imp fun as e1 F1 H1 fp1 m1 L1 z vs hvs => ?_)⟩
    exact mut_go L1 hvl hvs z
theorem ec_mut0 {id : String} {name x : Str} {apos npos : Pos} (i : Nat) {g : List D → List D → Option (D × List D)} (slot : Slot "list" name id) (ty : typeOf (.builtin id) = pure (.type "method_descriptor")) (rule : MtR X id (rMu X g))
    (hN : X.N[i]? = some x := by rfl) (hv : Vis X.env.scope x := by first | exact Or.inl rfl | exact Or.inr (Or.inl rfl) | exact Or.inr (Or.inr rfl)) (hd : (x == ("__debug__" : Str)) = false := by decide) (hcd : (x == ("__classdict__" : Str)) = false := by decide)
    (hbase : attributeBase (.Name x npos) name X.env (eval (.Name x npos) X.env) = eval (.Name x npos) X.env := by rfl)
    (hline : (apos.endLine == pos.line) = true := by rfl) : EC X W false (.Call (.Attribute (.Name x npos) name apos) [] [] pos) (mMut i g mNil) := by
  refine ⟨_, pe_bm0 F.plainAttrs_list slot ty rule (pe_var hN hv hd hcd) hbase hline, fun F H σ env fp Q L P => ?_⟩
  unfold mMut at P
  cases h0 : atO i env with
  | none => rw [h0] at P; exact P.elim
  | some ds0 =>
    simp only [h0] at P
    obtain ⟨l, xs, hvl, hH⟩ := mut_ok L h0
    exact ⟨_, hvl, .inl ⟨rfl, _, .inl (Rd.of hH)⟩, mut_go (W := W) L hvl .nil (P.bnd.ret L)⟩
/-! ### xs[i] = .. -/
def setIx (i : Nat) (k d : D) : ST := fun e => match atO i e with
  | some ds => (match k with
    | .int n => (match ixN ds.length n with
      | some j => .nx (e.set i (some (.ow (ds.set j d))))
      | none => .no)
    | _ => .no)
  | none => .no
def sSetIx (i : Nat) (f fi : M D) : ST := sE f fun d => fun e => match atO i e with
  | some _ => sE fi (fun k => setIx i k d) e
  | none => .no
theorem sj_setIx {i : Nat} {f fi : M D} {x : Str} {tpos npos : Pos} (h : ES X W p e f) (hi : EP X W false c fi) (hro : i ∉ ro := by decide)
    (hN : X.N[i]? = some x := by rfl) (hv : Vis X.env.scope x := by first | exact Or.inl rfl | exact Or.inr (Or.inl rfl) | exact Or.inr (Or.inr rfl)) (hd : (x == ("__debug__" : Str)) = false := by decide) (hcd : (x == ("__classdict__" : Str)) = false := by decide)
    (hs : swapsWithSole [.Subscript (.Name x npos) c tpos] e pos.line X.env = pure false := by rfl) (hw : swappedStores [.Subscript (.Name x npos) c tpos] e X.env = pure none := by rfl)
    (h1 : (assignEach [.Subscript (.Name x npos) c tpos] X.env).map (·.2) = [assign (.Subscript (.Name x npos) c tpos) X.env] := by rfl)
    (ha : ∀ v, assign (.Subscript (.Name x npos) c tpos) X.env v = (do
      let ov ← holding [v] (eval (.Name x npos) X.env)
      let iv ← holding [v, ov] (eval c X.env)
      standAt tpos
      holding [v, ov, iv] (setItem ov iv v)
      release [v, ov, iv] []) := by intro _; rfl) : SJ X W ro (.Assign [.Subscript (.Name x npos) c tpos] e pos) (sSetIx i f fi) := by
  obtain ⟨t, h, k⟩ := h
  obtain ⟨ti, hi, ki⟩ := hi
  refine ⟨_, ps_asg h (pg_sub (pe_var hN hv hd hcd) hi set_list ha) hs hw h1, fun F H σ env fp N L P => k F H σ env fp _ L ((wpS.expr P).imp fun d e' F' H' fp' m L' z v dv => ?_)⟩
  cases h0 : atO i e' with
  | none => simp only [h0] at z; exact z.elim
  | some ds0 =>
    simp only [h0] at z
    obtain ⟨l, xs, hvl, hH⟩ := mut_ok L' h0
    refine ⟨_, hvl, ki F' H' σ e' fp' _ L' ((wpS.expr z).imp fun kd e2 F2 H2 fp2 m2 L2' z vk pk2 => ?_)⟩
    unfold setIx at z
    cases h2 : atO i e2 with
    | none => rw [h2] at z; exact z.elim
    | some ds =>
      rw [h2] at z
      cases kd with
      | int n =>
        simp only at z
        have e := pk2.int
        subst e
        cases h3 : ixN ds.length n with
        | none => rw [h3] at z; exact z.elim
        | some j =>
          rw [h3] at z
          have hc := atO_is h2
          obtain ⟨v', hv', ow⟩ := L2'.slot i _ hc
          rw [hvl] at hv'
          cases hv'
          generalize hl : fp2 i = l2 at ow
          cases ow with
          | ow f1 f2 f3 =>
            refine ⟨_, _, n, j, rfl, rfl, f2, by rw [f3.len]; exact h3, ?_⟩
            obtain ⟨L3, m3⟩ := L2'.mut (o := .lst (_)) (c' := .ow (ds.set j d)) (l' := [_]) hc hvl (by rw [hl]; simp) (.ow f1 upd_same (f3.set j (Dq_mono m2.f _ _ dv))) (fun b hb => by rw [hl]; exact hb)
            exact z _ _ _ _ m3 L3 (Ro.rfl' σ)
      | _ => exact z.elim
/-! ### name += .. -/
def sAugAdd (i : Nat) (f : M D) : ST := fun e => match e[i]? with
  | some (some (.fz (.int a))) => sE f (fun d e1 => match d with
    | .int b => stC i (.fz (.int (a + b))) e1
    | _ => .no) e
  | _ => .no
end
end DL

set_option Elab.async false
set_option linter.all false
set_option maxRecDepth 100000
set_option maxHeartbeats 4000000
/-! DL, part k: defs of frozen parameters, their calls. -/
namespace DL
open PySem PySem.Spec L2

/-- what a def tells -/
inductive Rf where
  | ok (c : Cell)
  | ex (c : Str)
  | no
abbrev Fn := List D → Rf
/-- where a body begins -/
def envF (n : Nat) (ds : List D) : LE := ds.map (fun d => some (.fz d)) ++ List.replicate (n - ds.length) none
def outF : Out → Rf
  | .rt c _ => .ok c
  | .nx _ => .ok (.fz .none)
  | .ex c _ => .ex c
  | _ => .no
def runF (n : Nat) (f : ST) : Fn := fun ds => outF (f (envF n ds))
def mRf (r : Rf) : M Cell := fun e => match r with
  | .ok c => .ok c e
  | .ex c => .ex c e
  | .no => .no
def mCall (g : Fn) (f : M (List D)) : M Cell := bnd f fun ds => mRf (g ds)
/-- the promise -/
def NewW (K : PySem.W.Frag) (mg : Str → Option Value) (F H : Hp) (c : Cell) (Q : VK) : Prop := ∀ v F' H' l, New F H F' H' → TabOk K mg H' → Own K mg F' H' v c l → (∀ a ∈ l, H a = none) → Q v H'
def spR (K : PySem.W.Frag) (mg : Str → Option Value) (F H : Hp) (Q : VK) (E : XK) : Rf → Prop
  | .ok c => NewW K mg F H c Q
  | .ex c => ∀ C F' H', mg c = some (.ref C) → New F H F' H' → TabOk K mg H' → E (.ref C) none H'
  | .no => False
def spD (K : PySem.W.Frag) (mg : Str → Option Value) (n : Nat) (g : Fn) : Sp := fun vs H Q E => vs.length = n ∧ ∃ F ds, Same F H ∧ (∀ a o, F a = some o → NT o) ∧ TabOk K mg H ∧ DqAll K F vs ds ∧ spR K mg F H Q E (g ds)
theorem Mv.new {K : PySem.W.Frag} {mg : Str → Option Value} {p : Bool} {F H F' H' : Hp} {σ : L2.St} {env : LE} {fp : FP} (m : Mv p F H fpNil F' H' fp) (L : LOk K mg F' H' σ env fp) : New F H F' H' := by
  have no : ∀ a, ¬ U fpNil a := fun a ⟨_, z⟩ => by cases z
  refine ⟨m.f, fun a o e nt => m.h a o e nt fun _ => no a, fun a o e => ?_, L.same, m.d, fun a o e => .inr (L.ntf a o e)⟩
  rcases m.n a o e with z | z | z
  · exact .inl z
  · exact .inr z
  · exact absurd z (no a)
theorem lok_start {K : PySem.W.Frag} {mg : Str → Option Value} {F H : Hp} {vs : List V} {ds : List D} {N : List Str} (s : Same F H) (nf : ∀ a o, F a = some o → NT o) (tb : TabOk K mg H) (h : DqAll K F vs ds) : LOk K mg F H (L2.start N vs) (envF N.length ds) fpNil := by
  have hl := h.len
  refine ⟨s, fun i c q => ?_, fun _ _ => rfl, (fun _ _ _ _ z => by cases z), by simp [L2.start, envF, hl], tb, nf⟩
  unfold envF at q
  by_cases hi : i < ds.length
  · rw [List.getElem?_append_left (by simpa using hi), List.getElem?_map] at q
    cases e : ds[i]? with
    | none => rw [e] at q; cases q
    | some d =>
      rw [e] at q
      cases q
      obtain ⟨v, hv, dv⟩ := h.at e
      exact ⟨v, by unfold L2.start; rw [List.getElem?_append_left (by rw [List.length_map, hl]; exact hi), List.getElem?_map, hv]; rfl, .fz dv⟩
  · rw [List.getElem?_append_right (by simpa using hi), List.getElem?_replicate] at q
    split at q <;> cases q
section
variable {P : Program} {w : World} {K : PySem.W.Frag} {mg : Str → Option Value} {base : Heap} {x qual : Str} {params : Arguments} {body : List Stmt} {scope : Scope} {dvs : List V} {kws : List (Str × V)} {f : Addr} {fd : FuncData}
theorem okD {N ps : List Str} {k : Nat} {b : ST} (F : FunD K x qual params body scope dvs kws f fd) (S : FnScope N ps scope) (n : Nat) (hn : ps.length = n)
    (hb : ∀ (X : Cx) (W : WX) (cdv : Value) (A : Around) (outer : List Env) (s : Shared) (H : Hp) (E : XK), X = cxOf (L2.CX P w) P w K mg base N qual scope f cdv A outer s H E → Room k X.A → Takes X W → PassesOwn (model X.prog X.w) X.A X.env X.xe → SJs X W [] body b) :
    FnOk P w K mg base (L2.CX P w) (k + 1) f fd ps (spD K mg n (runF N.length b)) := by
  refine F.ok S (fun vs H Q E h => h.1.trans hn.symm) (fun cdv A outer s H vs Q E hr h => ?_)
  have tk : Takes (cxOf (L2.CX P w) P w K mg base N qual scope f cdv A outer s H E) (fun cls d _ H => E cls d H) := takes_of rfl rfl rfl rfl
  obtain ⟨t, ht, kt⟩ := hb _ (fun cls d _ H => E cls d H) cdv A outer s H E rfl hr tk (passes_of rfl)
  refine ⟨t, ht, ?_⟩
  obtain ⟨hl, F0, ds, sm, nf, tb, dv, z⟩ := h
  refine kt F0 H (L2.start N vs) (envF N.length ds) fpNil _ (lok_start sm nf tb dv) ?_
  unfold runF at z
  cases e : b (envF N.length ds) with
  | nx e' =>
    rw [e] at z
    exact fun σ' F' H' fp' m L _ => z .non F' H' [] (m.new L) L.tab (.fz .non) (fun _ q => by cases q)
  | rt c e' =>
    rw [e] at z
    intro v σ' F' H' fp' m L _ ⟨l, o, d, nw⟩
    refine z v F' H' l (m.new L) L.tab o fun a ha => ?_
    rcases nw a ha with ⟨_, q⟩ | q
    · cases q
    · exact q
  | ex c e' =>
    rw [e] at z
    exact fun C σ' F' H' fp' hc m L _ => z C F' H' hc (m.new L) L.tab
  | bk _ => rw [e] at z; exact z.elim
  | ct _ => rw [e] at z; exact z.elim
  | no => rw [e] at z; exact z.elim
end
/-- so many arguments -/
def Arl (n : Nat) (f : M (List D)) : Prop := ∀ env ds env', f env = .ok ds env' → ds.length = n
theorem arl_nil : Arl 0 mNil := fun env ds env' h => by cases h; rfl
theorem arl_cons {n : Nat} {f : M D} {g : M (List D)} (h : Arl n g) : Arl (n + 1) (mCons f g) := fun env ds env' q => by
  unfold mCons bnd at q
  split at q
  · rename_i d e1 _
    simp only at q
    split at q
    · rename_i ds' e2 q2
      cases q
      rw [List.length_cons, h _ _ _ q2]
    · cases q
    · cases q
  · cases q
  · cases q
section
variable {X : Cx} {W : WX} {p : Bool} {e : Expr} {es : List Expr} {pos p0 : Pos} {k n : Nat} {f : Addr} {fd : FuncData} {ps : List Str} {x : Str} {g : Fn}
theorem ec_call {a : M (List D)} (F : FnOk X.prog X.w X.K X.mg X.base (L2.CX X.prog X.w) k f fd ps (spD X.K X.mg n g)) (hr : Room k X.A) (hm : X.mg x = some (.ref f)) (hk : PySem.W.keepIn X.K (.ref f) = true) (hb : Binds X.K fd ps []) (tk : Takes X W)
    (hal : Arl n a) (ha : AC X W p (e :: es) a) (hg : Gl X x := by rfl) (hdb : (x == ("__debug__" : Str)) = false := by decide) (he : starEach (e :: es) X.env = (false, eval e X.env) :: starEach es X.env := by rfl) (hpl : (backTo pos (starEach es X.env)).any (·.1) = false := by rfl) :
    EC X W p (.Call (.Name x p0) (e :: es) [] pos) (mCall g a) := by
  obtain ⟨t, h, kt⟩ := ha
  refine ⟨_, pe_callS (E := WE W) F hr hg hm hk hb (fun σ => passAt tk σ) h hdb he hpl, fun F H σ env fp Q L P => ?_⟩
  have P2 := P.bnd
  have hl : ∀ ds e', a env = .ok ds e' → ds.length = n := fun ds e' q => hal _ _ _ q
  refine kt F H σ env fp _ L ?_
  cases ea : a env with
  | ex c e' => rw [ea] at P2; exact P2
  | no => rw [ea] at P2; exact P2
  | ok ds e1 =>
    rw [ea] at P2
    intro F1 H1 fp1 m1 L1 vs dvs
    have z := P2 F1 H1 fp1 m1 L1
    refine ⟨dvs.len.trans (hl _ _ ea), F1, ds, L1.same, L1.ntf, L1.tab, dvs, ?_⟩
    simp only [mRf] at z
    cases eg : g ds with
    | ok c =>
      rw [eg] at z
      exact newW_of (p := p) L1 (wpE.newC m1 z)
    | ex c =>
      rw [eg] at z
      intro C F' H' hc n nt
      obtain ⟨L', m⟩ := n.mv nt L1
      exact z C F' H' fp1 hc m.weak L'
    | no => rw [eg] at z; exact z.elim
end
end DL

set_option Elab.async false
set_option linter.all false
set_option maxRecDepth 100000
set_option maxHeartbeats 4000000
/-! DL, part l: sorted of data. -/
namespace DL
open PySem PySem.Spec L2 PySem.W

/-- xs may be sorted: any two can be compared -/
def sortOk (ds : List D) : Bool := (ds.all fun a => ds.all fun b => alike a b) && ((ds.all fun d => match d with | .tuple (_ :: _) => true | _ => false) || (ds.all fun d => match d with | .none => false | .tuple _ => false | _ => true)) && ds.all fun d => decide (d.depth ≤ 60)
theorem sortOk_alike {ds : List D} (h : sortOk ds = true) : AllAlike ds := by
  unfold sortOk at h
  simp only [Bool.and_eq_true, List.all_eq_true] at h
  exact fun d hd d' hd' => h.1.1 d hd d' hd'
theorem sortOk_sortable {ds : List D} (h : sortOk ds = true) : Sortable ds := by
  unfold sortOk at h
  simp only [Bool.and_eq_true, Bool.or_eq_true, List.all_eq_true] at h
  rcases h.1.2 with k | k
  · refine .inl fun d hd => ?_
    have z := k d hd
    split at z
    · exact ⟨_, _, rfl⟩
    · cases z
  · refine .inr fun d hd => ?_
    have z := k d hd
    split at z
    · cases z
    · cases z
    · rename_i n1 n2
      exact ⟨fun e => n1 e, fun xs e => n2 xs e⟩
theorem sortOk_depth {ds : List D} (h : sortOk ds = true) : ∀ d ∈ ds, d.depth ≤ 60 := by
  unfold sortOk at h
  simp only [Bool.and_eq_true, List.all_eq_true] at h
  exact fun d hd => of_decide_eq_true (h.2 d hd)
def sortD (rev : Bool) (ds : List D) : List D := ds.mergeSort (dataLe rev id)
def bSorted : List D → Option Cell
  | [.list ds] => if sortOk ds = true then some (.ow (sortD false ds)) else none
  | _ => none
theorem eachIs_of {K : PySem.W.Frag} {F : Hp} : ∀ {vs : List V} {us : List Value} {ds : List D}, Vals vs us → DqAll K F vs ds → EachIs (fun u d => ∃ v, RelV v u ∧ Dq K F v d) us ds
  | _, _, _, .nil, .nil => .nil
  | _, _, _, .cons r t, .cons h1 h2 => .cons ⟨_, r, h1⟩ (eachIs_of t h2)
theorem eachIs_to {K : PySem.W.Frag} {F : Hp} : ∀ {us : List Value} {ds : List D}, EachIs (fun u d => ∃ v, RelV v u ∧ Dq K F v d) us ds → ∃ vs, Vals vs us ∧ DqAll K F vs ds
  | _, _, .nil => ⟨[], .nil, .nil⟩
  | _, _, .cons ⟨v, r, h⟩ t => by
    obtain ⟨vs, h1, h2⟩ := eachIs_to t
    exact ⟨v :: vs, .cons r h1, .cons h h2⟩
section
variable {X : Cx}
theorem cr_sortedD (hu : X.A.units + 65 < cLine) : CallR X (.builtin "sorted") (rDs X bSorted) := by
  intro pins s σ H xs us Q I r ⟨F, ds, c, sm, h, hg, q⟩
  unfold bSorted at hg
  split at hg
  · obtain ⟨v, rfl, h1⟩ := h.one
    rename_i ds
    split at hg
    · rename_i hok
      cases hg
      obtain ⟨a, vs, rfl, hl, al⟩ := h1.list sm
      obtain ⟨its, rv, pl, hz⟩ := I.list hl
      rw [Vals.ref1 r]
      have e1 : EachIs (fun u d => ∃ v, RelV v u ∧ Dq X.K F v d) its ds := eachIs_of rv al
      have e2 : EachIs (fun u d => ∃ as, Reads s.heap u (id d) as) its ds := e1.mono fun u d ⟨v, r1, d1⟩ => (Dq_mono sm _ _ d1).dp.reads I _ _ _ r1
      have hm : ds.map id = ds := List.map_id _
      have hlen : ds.length = vs.length := al.len.symm
      refine sorted_data (enc := id) (R := fun u d => ∃ v, RelV v u ∧ Dq X.K F v d) pl.isList e1 e2 (by rw [hm]; exact sortOk_alike hok) (by rw [hm]; exact sortOk_sortable hok) (by rw [hlen]; exact hz) (fun b hb => ?_) fun out hol ho => ?_
      · have := sortOk_depth hok b hb
        show X.A.units + 2 + b.depth < cLine
        omega
      · obtain ⟨ys, hv, hd⟩ := eachIs_to ho
        obtain ⟨ep, he'⟩ := PyProof.Rows.sortedAll_at s.heap its out.toArray
        have hyl : ys.length ≤ sizeLine := by rw [hv.length, hol, hlen]; exact hz
        exact ⟨.ref _, upd H (s.heap.objs.size + 1) (.lst ys), I.laid (t' := s.toks) (fun _ _ => PyProof.Rows.sortedAll_old) (Nat.le_succ _) ⟨hyl, out, ep, hv, he'⟩, rfl, q.ow sm hd (I.hok.fresh (Nat.le_succ _))⟩
    · cases hg
  · cases hg
end
end DL

set_option Elab.async false
set_option linter.all false
set_option maxRecDepth 100000
set_option maxHeartbeats 4000000
/-! DL, part m: short words for a printed derivation. -/
namespace DL
open PySem PySem.Spec L2
def sNo : ST := fun _ => .no
section
variable {X : Cx} {W : WX} {ro : List Nat} {p : Bool} {pos : Pos} {e a : Expr} {es : List Expr}
theorem vp (i : Nat) {x : Str} (hN : X.N[i]? = some x := by rfl) (hv : Vis X.env.scope x := by first | exact Or.inl rfl | exact Or.inr (Or.inl rfl) | exact Or.inr (Or.inr rfl)) (hd : (x == ("__debug__" : Str)) = false := by decide)
    (hcd : (x == ("__classdict__" : Str)) = false := by decide) : EP X W p (.Name x pos) (pk i) := (ep_var i hN hv hd hcd).weak
theorem vs (i : Nat) {x : Str} (hN : X.N[i]? = some x := by rfl) (hv : Vis X.env.scope x := by first | exact Or.inl rfl | exact Or.inr (Or.inl rfl) | exact Or.inr (Or.inr rfl)) (hd : (x == ("__debug__" : Str)) = false := by decide)
    (hcd : (x == ("__classdict__" : Str)) = false := by decide) : ES X W p (.Name x pos) (fr i) := (es_var i hN hv hd hcd).weak
theorem vm (i : Nat) {x : Str} (hN : X.N[i]? = some x := by rfl) (hv : Vis X.env.scope x := by first | exact Or.inl rfl | exact Or.inr (Or.inl rfl) | exact Or.inr (Or.inr rfl)) (hd : (x == ("__debug__" : Str)) = false := by decide)
    (hcd : (x == ("__classdict__" : Str)) = false := by decide) : EC X W p (.Name x pos) (mvo i) := (ec_mv i hN hv hd hcd).weak
theorem ki {i j} : ES X W p (.Constant (.int i) j pos) (ret (.int i)) := es_int.weak
theorem kb {i j} : ES X W p (.Constant (.bool i) j pos) (ret (.bool i)) := es_bl.weak
theorem ks {i j} : ES X W p (.Constant (.str i) j pos) (ret (.str i)) := es_str.weak
theorem kn {j} : ES X W p (.Constant .none j pos) (ret .none) := es_non.weak
theorem a0 : AC X W p [] mNil := ac_nil.weak
theorem b0 : AP X W p [] mNil := ac_nil.weak.ap
theorem en : EO X W p none (ret none) := by
  obtain ⟨t, h, k⟩ := (eo_none : EO X W true none (ret none))
  exact ⟨t, h, fun F H σ env fp Q L P => k F H σ env fp Q L (P.le (fun _ => rfl))⟩
theorem en0 : ETs X W p [] (ret true) := by
  obtain ⟨t, h, k⟩ := (ets_nil : ETs X W true [] (ret true))
  exact ⟨t, h, fun F H σ env fp Q L P => k F H σ env fp Q L (P.le (fun _ => rfl))⟩
/-- what is never reached -/
theorem ss_dead {st : List Stmt} : SJs X W ro st sNo := ⟨fun _ _ _ => False, ⟨fun _ _ _ _ _ _ h => h.elim⟩, fun _ _ _ _ _ _ _ P => P.elim⟩
end
/-- .. for any world -/
def CXA (P : Program) : CXT := fun outer H s E u s' => ∃ w, L2.CX P w outer H s E u s'
theorem fnCXA {P : Program} {w : World} {K : PySem.W.Frag} {mg : Str → Option Value} {base : Heap} {k : Nat} {f : Addr} {fd : FuncData} {ps : List Str} {sp : Sp} (F : FnOk P w K mg base (L2.CX P w) k f fd ps sp) : FnOk P w K mg base (CXA P) k f fd ps sp :=
  ⟨F.len, fun A outer s H args us vs Q E hr he hb hv hs => codeAny_mono (F.run A outer s H args us vs Q E hr he hb hv hs) fun r s' h => by
    cases r with
    | error e => exact ⟨w, h⟩
    | ok fl => cases fl <;> exact h⟩
theorem noCXA {P : Program} {H : Hp} {s : Shared} {e : Value} {s' : Shared} (z : CXA P [] H s (fun _ _ _ => False) e s') : False := by
  obtain ⟨_, _, _, _, _, _, _, _, _, _, _, _, _, q⟩ := z
  exact q
theorem room65 {k : Nat} {A : Around} (r : Room k A) : A.units + 65 < cLine := by have := r.un; omega
theorem room64 {k : Nat} {A : Around} (r : Room k A) : A.units + 64 < cLine := by have := r.un; omega
def mNeg (f : M D) : M Cell := bnd f fun d => bnd (asI d) fun i => ret (.fz (.int (-i)))
end DL

set_option Elab.async false
set_option linter.all false
set_option maxRecDepth 100000
set_option maxHeartbeats 4000000
/-! DL, part n: raise; name += ..; the module's own values; numbers written. -/
namespace DL
open PySem PySem.Spec L2
/-- an error class of the program, below ValueError, without anything of its own -/
structure Xc (K : PySem.W.Frag) (mg : Str → Option Value) (x : Str) (C : Addr) : Prop where
  g : mg x = some (.ref C)
  x : PySem.W.excIn K C He.veBase "ValueError.__new__" = true
  k : PySem.W.keepIn K (.ref C) = true
  b : PySem.W.subIn K (.ref C) (.type "BaseException") = some true
  t : PySem.W.typeIn K (.ref C) = some (.type "type")
theorem xc_of {K : PySem.W.Frag} {h : Heap} {mg : Str → Option Value} {x : Str} (X : K.In h) (G : h.Ns mainGlobals mg) (c1 : (He.Fa.glo x).ok K = true) (c2 : (He.Fa.exc x).ok K = true) : Xc K mg x (He.ga K x) := by
  obtain ⟨h1, h2, h3, h4⟩ := He.exc_ok c2
  exact ⟨He.glo_ok X G c1, h1, h2, h3, h4⟩
def sRaise (x : Str) : ST := fun e => .ex x e
section
variable {X : Cx} {W : WX} {ro : List Nat} {p : Bool} {e : Expr} {pos p1 p2 pos' : Pos}
theorem sj_raise {x m : Str} {j} {C : Addr} (o : Xc X.K X.mg x C) (tk : Takes X W) (hc : X.calm = true) (hg : Gl X x := by rfl) (hdb : (x == ("__debug__" : Str)) = false := by decide) : SJ X W ro (.Raise (some (.Call (.Name x p1) [.Constant (.str m) j p2] [] pos)) none pos') (sRaise x) :=
  ⟨_, ps_raise hc tk (pmk_own PySem.F.excBase_ValueError o.x o.g o.k (raises_own o.b o.t) hg hdb), fun F H σ env fp N L P => P _ σ F H fp o.g (Mv.refl _ _ _ _) L (Ro.rfl' σ)⟩
/-! ### name += a number -/
theorem sj_aug {i : Nat} {x : Str} {pos' : Pos} {f : M D} (hN : X.N.Nodup) (h : ES X W p e f) (hro : i ∉ ro := by decide) (hi : X.N[i]? = some x := by rfl) (hx : Loc X.env.scope x := by first | exact Or.inl rfl | exact Or.inr rfl)
    (hf : X.fn x = true ∨ X.env.scope.names.lookup x = some .local := by first | exact .inl rfl | exact .inr rfl) : SJ X W ro (.AugAssign (.Name x pos') .Add e pos) (sAugAdd i f) := by
  obtain ⟨t, h, k⟩ := h
  refine ⟨_, ps_aug hN hi hx h ip_add hf, fun F H σ env fp N L P => ?_⟩
  unfold sAugAdd at P
  split at P
  · rename_i a ha
    obtain ⟨v, hv, ow⟩ := L.slot i _ ha
    generalize fp i = l at ow
    cases ow with
    | fz hd =>
      cases hd
      refine ⟨.int a, hv, k F H σ env fp _ L ((wpS.expr (k := fun d e1 => match d with
        | .int b => stC i (.fz (.int (a + b))) e1
        | _ => .no) P).imp fun d e1 F1 H1 fp1 m1 L1 z w dw => ?_)⟩
      cases d with
      | int b =>
        cases dw
        exact ⟨a, b, rfl, rfl, storeC (p := true) hro L1 ⟨[], .fz (.int _), (fun _ m => by cases m), (fun _ m => by cases m)⟩ (Mv.refl _ _ _ _) z⟩
      | _ => exact z.elim
  · exact P.elim
/-! ### the module's own numbers and texts -/
theorem es_gint {x : Str} {i : Int} (hm : ∃ t, X.mg x = some (.int i t)) (hg : Gl X x := by rfl) (hdb : (x == ("__debug__" : Str)) = false := by decide) : ES X W p (.Name x pos) (ret (.int i)) := by
  obtain ⟨t, hm⟩ := hm
  exact (es_glob (v := .int i) hg hm ⟨t, rfl⟩ (fun _ => .int i) hdb).weak
theorem es_gstr {x : Str} {z : Str} (hm : ∃ t, X.mg x = some (.str z t)) (hg : Gl X x := by rfl) (hdb : (x == ("__debug__" : Str)) = false := by decide) : ES X W p (.Name x pos) (ret (.str z)) := by
  obtain ⟨t, hm⟩ := hm
  exact (es_glob (v := .str z) hg hm ⟨t, rfl⟩ (fun _ => .str z) hdb).weak
end
end DL

set_option Elab.async false
set_option linter.all false
set_option maxRecDepth 100000
set_option maxHeartbeats 4000000
/-! DL, part o: comparing data, walks backwards and by steps, divmod, str, list(range(..)), a dict written and asked at once. -/
namespace DL
open PySem PySem.Spec L2 PySem.W
/-! ### order of data -/
def cmpOk (a b : D) : Bool := alike a b && !isNone a && decide (min a.depth b.depth ≤ 60)
def dLtD : D → D → Option Cell
  | .int i, .int j => some (.fz (.bool (decide (i < j))))
  | a, b => if cmpOk a b = true then some (.fz (.bool (dataLt a b))) else none
def dGtD : D → D → Option Cell
  | .int i, .int j => some (.fz (.bool (decide (j < i))))
  | a, b => if cmpOk a b = true then some (.fz (.bool (dataLt b a))) else none
def dLeD : D → D → Option Cell
  | .int i, .int j => some (.fz (.bool (decide (i ≤ j))))
  | a, b => if cmpOk a b = true then some (.fz (.bool (!dataLt b a))) else none
def dGeD : D → D → Option Cell
  | .int i, .int j => some (.fz (.bool (decide (j ≤ i))))
  | a, b => if cmpOk a b = true then some (.fz (.bool (!dataLt a b))) else none
theorem cmpOk_is {a b : D} (h : cmpOk a b = true) : alike a b = true ∧ a ≠ .none ∧ min a.depth b.depth ≤ 60 := by
  unfold cmpOk at h
  simp only [Bool.and_eq_true, decide_eq_true_eq, Bool.not_eq_true'] at h
  exact ⟨h.1.1, fun e => by rw [e] at h; exact absurd h.1.2 (by decide), h.2⟩
section
variable {X : Cx}
theorem opD_cmp {op : CmpOp} {g : D → D → Option Cell} {f : D → D → Bool} (hu : X.A.units + 65 < cLine)
    (hi : ∀ (i j : Int), g (.int i) (.int j) = some (.fz (.bool (f (.int i) (.int j))))) (hd : ∀ a b c, g a b = some c → (∃ i j, a = .int i ∧ b = .int j) ∨ (cmpOk a b = true ∧ c = .fz (.bool (f a b))))
    (ho : ∀ (s : Shared) (a b : Value) (da db : D) (as bs : List Addr) (Q : Value → Shared → Prop) (E : Value → Shared → Prop), Reads s.heap a da as → Reads s.heap b db bs → alike da db = true → da ≠ .none → X.A.units + min da.depth db.depth < cLine → Q (.bool (f da db)) s → wpAny (model X.prog X.w) X.A (compareOp op a b) Q E s) :
    OpR X (compareOp op) (rD X g) := by
  intro pins s σ H x y v u Q I rx ry ⟨F, d1, d2, c, sm, h1, h2, hg, q⟩
  have r1 := fun d (h : Pk X.K F H x d) => (h.dqH sm).dp.reads I _ _ _ rx
  obtain ⟨as, r1⟩ := (h1.dqH sm).dp.reads I _ _ _ rx
  obtain ⟨bs, r2⟩ := (h2.dqH sm).dp.reads I _ _ _ ry
  have fin : alike d1 d2 = true ∧ d1 ≠ .none ∧ min d1.depth d2.depth ≤ 60 ∧ c = .fz (.bool (f d1 d2)) := by
    rcases hd _ _ _ hg with ⟨i, j, rfl, rfl⟩ | ⟨hc, rfl⟩
    · rw [hi] at hg
      cases hg
      exact ⟨rfl, (fun e => by cases e), (show min 0 0 ≤ 60 by decide), rfl⟩
    · obtain ⟨k1, k2, k3⟩ := cmpOk_is hc
      exact ⟨k1, k2, k3, rfl⟩
  obtain ⟨k1, k2, k3, rfl⟩ := fin
  exact ho s v u d1 d2 as bs _ _ r1 r2 k1 k2 (by omega) ⟨.bl _, H, I, rfl, q.fz sm (.bl _)⟩
theorem opD_ltD (hu : X.A.units + 65 < cLine) : OpR X (compareOp .Lt) (rD X dLtD) := opD_cmp (f := dataLt) hu (fun i j => by rw [dataLt_int]; rfl) (fun a b c h => by
    unfold dLtD at h
    split at h
    · exact .inl ⟨_, _, rfl, rfl⟩
    · split at h
      · cases h; exact .inr ⟨by assumption, rfl⟩
      · cases h) (fun s a b da db as bs Q E r1 r2 k1 k2 k3 q => lt_data r1 r2 k1 k2 k3 q)
theorem opD_gtD (hu : X.A.units + 65 < cLine) : OpR X (compareOp .Gt) (rD X dGtD) := opD_cmp (f := fun a b => dataLt b a) hu (fun i j => by show _ = some (Cell.fz (.bool (dataLt (.int j) (.int i)))); rw [dataLt_int]; rfl) (fun a b c h => by
    unfold dGtD at h
    split at h
    · exact .inl ⟨_, _, rfl, rfl⟩
    · split at h
      · cases h; exact .inr ⟨by assumption, rfl⟩
      · cases h) (fun s a b da db as bs Q E r1 r2 k1 k2 k3 q => gt_data r1 r2 k1 k2 k3 q)
theorem opD_leD (hu : X.A.units + 65 < cLine) : OpR X (compareOp .LtE) (rD X dLeD) := opD_cmp (f := fun a b => !dataLt b a) hu (fun i j => by show _ = some (Cell.fz (.bool (!dataLt (.int j) (.int i)))); rw [dataLt_int, cmp_not_lt]; rfl) (fun a b c h => by
    unfold dLeD at h
    split at h
    · exact .inl ⟨_, _, rfl, rfl⟩
    · split at h
      · cases h; exact .inr ⟨by assumption, rfl⟩
      · cases h) (fun s a b da db as bs Q E r1 r2 k1 k2 k3 q => le_data r1 r2 k1 k2 k3 q)
theorem opD_geD (hu : X.A.units + 65 < cLine) : OpR X (compareOp .GtE) (rD X dGeD) := opD_cmp (f := fun a b => !dataLt a b) hu (fun i j => by show _ = some (Cell.fz (.bool (!dataLt (.int i) (.int j)))); rw [dataLt_int, cmp_not_lt]; rfl) (fun a b c h => by
    unfold dGeD at h
    split at h
    · exact .inl ⟨_, _, rfl, rfl⟩
    · split at h
      · cases h; exact .inr ⟨by assumption, rfl⟩
      · cases h) (fun s a b da db as bs Q E r1 r2 k1 k2 k3 q => ge_data r1 r2 k1 k2 k3 q)
end
/-! ### walks -/
/-- how many steps of c from i stay below j -/
def stepsN (i j c : Int) : Nat := (Builtin.Range.rangeSize i j c).toNat
def mRange3 (f : M (List D)) : M (List D) := bnd f fun ds => match ds with
  | [.int i, .int j, .int c] => if c ≠ 0 ∧ c.natAbs < 1073741824 ∧ Builtin.Range.small i j c = true ∧ 0 ≤ Builtin.Range.rangeSize i j c then ret (rangeC i c (stepsN i j c)) else stuck
  | _ => stuck
section
variable {X : Cx} {W : WX} {ro : List Nat} {fz lo p : Bool} {tg e a b c : Expr} {pos : Pos}
theorem PkAll.three {K : PySem.W.Frag} {F H : Hp} {vs : List V} {d e f : D} (h : PkAll K F H vs [d, e, f]) : ∃ v w u, vs = [v, w, u] ∧ Pk K F H v d ∧ Pk K F H w e ∧ Pk K F H u f := by
  cases h with
  | cons h1 h2 =>
    obtain ⟨w, u, rfl, h3, h4⟩ := h2.two
    exact ⟨_, _, _, rfl, h1, h3, h4⟩
theorem ei_range3 {p0 : Pos} {f : M (List D)} (ha : AP X W p [a, b, c] f) (hm : X.mg "range" = none) (hg : Gl X "range" := by rfl) (hs : starEach [a, b, c] X.env = (false, eval a X.env) :: starEach [b, c] X.env := by rfl) (hpl : (backTo pos (starEach [b, c] X.env)).any (·.1) = false := by rfl) :
    EI X W true false p tg (.Call (.Name "range" p0) [a, b, c] [] pos) (mRange3 f) := by
  obtain ⟨t, h, k⟩ := ha
  refine ⟨_, pi_range3 hg hm h hs hpl, fun F H σ env fp R L P => k F H σ env fp _ L (P.bnd.imp fun ds e1 F1 H1 fp1 m1 L1 z vs dv => ?_)⟩
  split at z
  · rename_i i j k
    split at z
    · rename_i hj
      obtain ⟨v, w, u, rfl, h1, h2, h3⟩ := dv.three
      obtain ⟨c0, c1, c2, c3⟩ := hj
      exact ⟨i, j, k, stepsN i j k, by rw [h1.int, h2.int, h3.int], ⟨c0, c1, c2, by unfold stepsN; omega⟩, wpE.ret L1 z _ stp_rangeC⟩
    · exact z.elim
  · exact z.elim
/-- backwards; the list, the tuple stays -/
theorem ei_rev {p0 : Pos} {f : M D} (ha : ES X W p e f) (hm : X.mg "reversed" = none) (hg : Gl X "reversed" := by rfl) (hs : starEach [e] X.env = (false, eval e X.env) :: starEach [] X.env := by rfl) : EI X W true false p tg (.Call (.Name "reversed" p0) [e] [] pos) (mRev f) := by
  obtain ⟨t, h, k⟩ := ha
  refine ⟨_, RT.pi_revA hg hm h hs, fun F H σ env fp R L P => k F H σ env fp _ L (P.bnd.imp fun d e1 F1 H1 fp1 m1 L1 z v dv => ?_)⟩
  cases d with
  | list xs =>
    cases dv with
    | lst hl al =>
      rename_i a vs
      refine ⟨a, vs, rfl, .inl ⟨SqL_mono L1.same hl, wpE.ret L1 z _ fun F2 H2 s1 s2 _ i => ?_⟩⟩
      have r := SqL_mono (s1.trans s2) hl
      have len := al.len
      refine ⟨fun h => by simp at h; show vs.length ≤ i; omega, fun h => ⟨by simp at h; omega, vs, vs[vs.length - 1 - i]'(by simp at h; omega), r, List.getElem?_eq_getElem _⟩, fun x H3 h ⟨e1, e2⟩ => ?_⟩
      simp at h
      obtain ⟨d, hd, dd⟩ := al.atV (e2 vs r)
      refine ⟨d, ?_, by simp only [Bool.false_eq_true, if_false]; exact ⟨e1, Dq_mono s1 _ _ dd⟩⟩
      rw [List.getElem?_reverse (by omega), ← len]; exact hd
  | tuple xs =>
    cases dv with
    | tup hl al =>
      rename_i a vs
      refine ⟨a, vs, rfl, .inr ⟨SqT_mono L1.same hl.sq, wpE.ret L1 z _ fun F2 H2 s1 s2 _ i => ?_⟩⟩
      have r := SqT_mono (s1.trans s2) hl.sq
      have len := al.len
      refine ⟨fun h => by simp at h; show vs.length ≤ i; omega, fun h => ⟨by simp at h; omega, vs, vs[vs.length - 1 - i]'(by simp at h; omega), r, List.getElem?_eq_getElem _⟩, fun x H3 h ⟨e1, e2⟩ => ?_⟩
      simp at h
      obtain ⟨d, hd, dd⟩ := al.atV (e2 vs r)
      refine ⟨d, ?_, by simp only [Bool.false_eq_true, if_false]; exact ⟨e1, Dq_mono s1 _ _ dd⟩⟩
      rw [List.getElem?_reverse (by omega), ← len]; exact hd
  | _ => exact z.elim
/-! ### a, b = divmod(x, y) -/
def sDivmod (is : List Nat) (f : M (List D)) : ST := sE f fun ds => fun e => match ds with
  | [.int i, .int j] => if 0 < j ∧ Builtin.divisionGoesByPylong i j = false then (match setAll is [.int (i / j), .int (i % j)] e with
    | some e2 => .nx e2
    | none => .no) else .no
  | _ => .no
theorem sj_divmod {is : List Nat} {f : M (List D)} {p0 : Pos} {spos : Pos} (ha : AP X W p [a, b] f) (hm : X.mg "divmod" = none) (hv : bootBuiltins "divmod" = some (.builtin "divmod")) (hg : TL X tg is (setAll is)) (hro : ∀ i ∈ is, i ∉ ro := by decide)
    (hgl : Gl X "divmod" := by rfl) (he : starEach [a, b] X.env = (false, eval a X.env) :: starEach [b] X.env := by rfl) (hpl : (backTo pos (starEach [b] X.env)).any (·.1) = false := by rfl)
    (hs : swapsWithSole [tg] (.Call (.Name "divmod" p0) [a, b] [] pos) spos.line X.env = pure false := by rfl) (hw : swappedStores [tg] (.Call (.Name "divmod" p0) [a, b] [] pos) X.env = pure none := by rfl)
    (h1 : (assignEach [tg] X.env).map (·.2) = [assign tg X.env] := by rfl) : SJ X W ro (.Assign [tg] (.Call (.Name "divmod" p0) [a, b] [] pos) spos) (sDivmod is f) := by
  obtain ⟨t, h, k⟩ := ha
  obtain ⟨u, hg, kg⟩ := hg
  refine ⟨_, ps_asg (pe_callB call_divmodW hgl hm hv h (by decide) (by decide) he hpl) hg hs hw h1, fun F H σ env fp N L P => k F H σ env fp _ L ((wpS.expr P).imp fun ds e' F' H' fp' m L' z vs dv => ?_)⟩
  split at z
  · rename_i i j
    split at z
    · rename_i hj
      split at z
      · rename_i e2 he2
        obtain ⟨v, w, rfl, h1, h2⟩ := dv.two
        refine ⟨i, j, by rw [h1.int, h2.int], hj, fun q hq => ?_⟩
        obtain ⟨L2', m2, _⟩ := L'.newO (o := .tup [.int (i / j), .int (i % j)]) hq
        refine kg _ _ σ e' e2 fp' q _ [.int (i / j), .int (i % j)] _ L2' (.inl (.inl upd_same)) (.cons (.int _) (.cons (.int _) .nil)) he2 fun σ' fp2 L3 m3 so => ?_
        exact z σ' _ _ fp2 (m2.trans m3).weak L3 (so.toRo hro)
      · exact z.elim
    · exact z.elim
  · exact z.elim
/-! ### str(number) -/
def bStr : List D → Option Cell
  | [.int i] => if i.natAbs.log2 < 1920 then some (.fz (.str (toString i))) else none
  | _ => none
theorem cr_strD : CallR X (.type "str") (rDs X bStr) := by
  intro pins s σ H xs us Q I r ⟨F, ds, c, sm, h, hg, q⟩
  unfold bStr at hg
  split at hg
  · obtain ⟨v, rfl, h1⟩ := h.one
    split at hg
    · cases hg
      exact call_str_int pins s σ H _ us Q I r ⟨_, by rw [h1.int], by assumption, q.fz sm (.str _)⟩
    · cases hg
  · cases hg
end
end DL

set_option Elab.async false
set_option linter.all false
set_option maxRecDepth 100000
set_option maxHeartbeats 4000000
/-! DL, part p: list(range(..)); a dict written and asked at once. -/
namespace DL
open PySem PySem.Spec L2 PySem.W PyProof.Rows
def mListRange (f : M (List D)) : M Cell := bnd f fun ds => match ds with
  | [.int j] => if sm62 j = true ∧ j.toNat ≤ 16777216 then ret (.ow (rangeD 0 j.toNat)) else stuck
  | _ => stuck
section
variable {X : Cx} {W : WX} {ro : List Nat} {p : Bool} {e a k : Expr} {pos : Pos}
theorem vals_rangeD {K : PySem.W.Frag} {F : Hp} {acc : Array Value} {n : Nat} (h : ItemsOf (fun i v => ∃ t, v = Value.int (0 + i * 1) t) acc n) : ∃ vs, Vals vs acc.toList ∧ DqAll K F vs (rangeD 0 n) := by
  have e : ∀ (l : List Value) (k : Nat), (∀ j v, l[j]? = some v → ∃ t, v = Value.int (((k + j : Nat) : Int)) t) → ∃ vs, Vals vs l ∧ DqAll K F vs ((List.range' k l.length).map fun (i : Nat) => PyData.int (0 + i)) := by
    intro l
    induction l with
    | nil => exact fun k _ => ⟨[], .nil, .nil⟩
    | cons v l ih =>
      intro k hk
      obtain ⟨t, hv⟩ := hk 0 v rfl
      obtain ⟨vs, h1, h2⟩ := ih (k + 1) fun j v hj => by
        obtain ⟨t, q⟩ := hk (j + 1) v (by simpa using hj)
        exact ⟨t, by rw [q]; congr 2; omega⟩
      refine ⟨.int (0 + k) :: vs, .cons ⟨t, by rw [hv]; congr 1; simp⟩ h1, ?_⟩
      rw [List.length_cons, List.range'_succ, List.map_cons]
      exact .cons (.int _) h2
  obtain ⟨vs, h1, h2⟩ := e acc.toList 0 fun j v hj => by
    obtain ⟨t, q⟩ := h.2 j v (by rw [← Array.getElem?_toList]; exact hj)
    exact ⟨t, by rw [q]; congr 1; simp⟩
  refine ⟨vs, h1, ?_⟩
  have hl : acc.toList.length = n := by rw [Array.length_toList]; exact h.1
  rw [hl, ← List.range_eq_range'] at h2
  exact h2
def tLRange (t : TA) : TE := fun σ H Q => t σ H fun vs H1 => ∃ j : Int, vs = [.int j] ∧ -(2 ^ 62) ≤ j ∧ j < 2 ^ 62 ∧ j.toNat ≤ sizeLine ∧ ∀ (K : PySem.W.Frag) (xs : List V) (q : Addr), DqAll K (fun _ => none) xs (rangeD 0 j.toNat) → H1 q = none → Q (.ref q) (upd H1 q (.lst xs))
theorem pe_listRange {t : TA} {p0 p1 q : Pos} (hc : X.calm = true) (hg : Gl X "list") (hm : X.mg "list" = none) (hg2 : Gl X "range") (hm2 : X.mg "range" = none) (ha : PA X [a] t)
    (na : starEach [a] X.env = [(false, eval a X.env)] := by rfl) (nr : starEach [Expr.Call (.Name "range" p1) [a] [] q] X.env = (false, eval (.Call (.Name "range" p1) [a] [] q) X.env) :: starEach [] X.env := by rfl) :
    PE X (.Call (.Name "list" p0) [.Call (.Name "range" p1) [a] [] q] [] pos) (tLRange t) := by
  refine ⟨fun pins s σ H Q I h => ?_⟩
  refine Call_ (ld_blt I hg hm (show bootBuiltins "list" = some (.type "list") by decide +kernel) (PyProof.Rows.callWith_type1 (args_cons ?_ nr) nr rfl))
  refine Call_ (ld_blt I hg2 hm2 PyProof.Rows.boot_range (PyProof.Rows.callWith_type1 (thn (ha.run q pins s σ H _ I h) fun us s1 ⟨vs, H1, I1, r1, z⟩ => ?_) na rfl))
  obtain ⟨j, ev, j1, j2, j3, z⟩ := z
  subst ev
  obtain ⟨u, eu, ru⟩ := Vals.one r1
  subst eu
  obtain ⟨tk, eu⟩ := ru
  subst eu
  refine call_range_1 (args_nil ?_)
  have hnew : ∀ b o, s1.heap.get? b = some o → (s1.heap.push { cls := .type "range", data := .fields #[.int 0 s1.toks, .int j tk, .int 1 (s1.toks + 1)] }).get? b = some o := fun b o e => Heap.get?_push_of_some _ e
  have I2 : Inv X pins σ H1 { s1 with heap := s1.heap.push { cls := .type "range", data := .fields #[.int 0 s1.toks, .int j tk, .int 1 (s1.toks + 1)] }, toks := s1.toks + 1 + 1 } := I1.kept hnew
  have hsz : Builtin.Range.rangeSize 0 j 1 = ((j.toNat : Nat) : Int) := by rw [PySem.rangeSize_one]; split <;> omega
  refine call_list_range (s := { s1 with heap := s1.heap.push { cls := .type "range", data := .fields #[.int 0 s1.toks, .int j tk, .int 1 (s1.toks + 1)] }, toks := s1.toks + 1 + 1 }) (I1.ok.hd hc) (IsRange.new ..) (PySem.small_one (by omega) (by omega) j1 j2) hsz (by rw [← show sizeLine = 2 ^ 24 from rfl]; exact j3) fun h' tk' acc c' hk hnw hit => ?_
  obtain ⟨xs, hv, hd⟩ := vals_rangeD (K := X.K) (F := fun _ => none) hit
  have hlen : xs.length ≤ sizeLine := by rw [hv.length, Array.length_toList, hit.1]; exact j3
  exact ⟨.ref _, _, I2.laid (t' := tk') (o := .lst xs) hk (Nat.le_refl _) ⟨hlen, acc.toList, c', hv, by rw [Array.toArray_toList]; exact hnw⟩, rfl, z X.K xs _ hd (I2.hok.fresh (Nat.le_refl _))⟩
theorem ec_listRange {f : M (List D)} {p0 p1 q : Pos} (hc : X.calm = true) (hm : X.mg "list" = none) (hm2 : X.mg "range" = none) (ha : AP X W p [a] f) (hg : Gl X "list" := by rfl) (hg2 : Gl X "range" := by rfl)
    (na : starEach [a] X.env = [(false, eval a X.env)] := by rfl) (nr : starEach [Expr.Call (.Name "range" p1) [a] [] q] X.env = (false, eval (.Call (.Name "range" p1) [a] [] q) X.env) :: starEach [] X.env := by rfl) :
    EC X W p (.Call (.Name "list" p0) [.Call (.Name "range" p1) [a] [] q] [] pos) (mListRange f) := by
  obtain ⟨t, h, k⟩ := ha
  refine ⟨_, pe_listRange hc hg hm hg2 hm2 h na nr, fun F H σ env fp Q L P => k F H σ env fp _ L (P.bnd.imp fun ds e1 F1 H1 fp1 m1 L1 z vs dv => ?_)⟩
  split at z
  · rename_i j
    split at z
    · rename_i hj
      obtain ⟨v, rfl, h1⟩ := dv.one
      have hj' : -4611686018427387904 ≤ j ∧ j < 4611686018427387904 := by simpa [sm62] using hj.1
      refine ⟨j, by rw [h1.int], by omega, by omega, hj.2, fun K xs b hd hb => ?_⟩
      have hd' : DqAll X.K F1 xs (rangeD 0 j.toNat) := by
        have go : ∀ (n : List Nat) (xs : List V), DqAll K (fun _ => none) xs (n.map fun (i : Nat) => PyData.int (0 + i)) → DqAll X.K F1 xs (n.map fun (i : Nat) => PyData.int (0 + i)) := by
          intro n
          induction n with
          | nil => intro xs h; cases h; exact .nil
          | cons i n ih =>
            intro xs h
            cases h with
            | cons q1 q2 => cases q1; exact .cons (.int _) (ih _ q2)
        exact go _ _ hd
      exact (newV_of L1 (wpE.newC m1 z)).ow L1.same hd' hb
    · exact z.elim
  · exact z.elim
end
end DL

set_option Elab.async false
set_option linter.all false
set_option maxRecDepth 100000
set_option maxHeartbeats 4000000
/-! DL, part qa: the number of unlike texts. -/
namespace DL
open PySem PySem.Spec L2 PySem.W PyProof.Rows
/-- the texts met, each once -/
def metS (xs : List Str) : List Str := xs.foldl (fun l x => if x ∈ l then l else l ++ [x]) []
theorem metS_snoc (xs : List Str) (x : Str) : metS (xs ++ [x]) = if x ∈ metS xs then metS xs else metS xs ++ [x] := by
  unfold metS
  rw [List.foldl_append]
  rfl
theorem metS_len (xs : List Str) : (metS xs).length ≤ xs.length := by
  induction xs using PyProof.Rows.FinIter.snoc_ind with
  | nil => exact Nat.le_refl 0
  | snoc xs x ih =>
    rw [metS_snoc]
    split
    · simp only [List.length_append, List.length_singleton]; omega
    · simp only [List.length_append, List.length_singleton]; omega
theorem metS_take {xs : List Str} {i : Nat} {d : Str} (h : i < xs.length) : metS (xs.take (i + 1)) = if xs.getD i d ∈ metS (xs.take i) then metS (xs.take i) else metS (xs.take i) ++ [xs.getD i d] := by
  rw [List.take_succ_eq_append_getElem h, metS_snoc]
  have e : xs.getD i d = xs[i] := by simp [List.getD_eq_getElem?_getD, h]
  rw [e]
/-- the number of unlike texts among some -/
def lenS (ds : List D) : Option Cell := match strsOf ds with
  | some xs => if xs.length ≤ 4000 then some (.fz (.int (metS xs).length)) else none
  | none => none
def bLenSet : List D → Option Cell
  | [.list l] => lenS l
  | [.tuple l] => lenS l
  | _ => none
end DL

set_option Elab.async false
set_option linter.all false
set_option maxRecDepth 100000
set_option maxHeartbeats 4000000
/-! DL, part s: a list of lists of our own. -/
namespace DL
open PySem PySem.Spec L2

/-- the list of cells of our own at slot i -/
def atL (i : Nat) (e : LE) : Option (List Cell) := match e[i]? with
  | some (some (.tl cs)) => some cs
  | some (some (.ow [])) => some []
  | _ => none
def appAt (n : Int) (d : D) (cs : List Cell) : Option (List Cell) := (ixN cs.length n).bind fun j => match cs[j]? with
  | some (.ow ds) => if ds.length < 16777216 then some (cs.set j (.ow (ds ++ [d]))) else none
  | _ => none
def owAt (n : Int) (cs : List Cell) : Option (List D) := (ixN cs.length n).bind fun j => match cs[j]? with
  | some (.ow ds) => some ds
  | _ => none
/-- xs.append(c) -/
def sAppC (i : Nat) (f : M Cell) : ST := fun e => match atL i e with
  | some _ => sE f (fun c e1 => match atL i e1 with
    | some cs => if cs.length < 16777216 then .nx (e1.set i (some (.tl (cs ++ [c])))) else .no
    | none => .no) e
  | none => .no
/-- xs[k].append(d) -/
def sAppAt (i : Nat) (fk f : M D) : ST := fun e => match atL i e with
  | some _ => sE fk (fun kd e1 => match kd with
    | .int n => (match (atL i e1).bind (owAt n) with
      | some _ => sE f (fun d e2 => match (atL i e2).bind (appAt n d) with
        | some cs => .nx (e2.set i (some (.tl cs)))
        | none => .no) e1
      | none => .no)
    | _ => .no) e
  | none => .no
section
variable {K : PySem.W.Frag} {mg : Str → Option Value} {F F' F1 F2 H H' H1 H2 : Hp} {σ : L2.St} {env : LE} {fp fp' fp1 fp2 : FP}
theorem OwnAll.len : ∀ {vs : List V} {cs : List Cell} {l : List Addr}, OwnAll K mg F H vs cs l → vs.length = cs.length
  | _, _, _, .nil => rfl
  | _, _, _, .cons _ t _ => congrArg (· + 1) (OwnAll.len t)
theorem OwnAll.snoc {v : V} {c : Cell} {l : List Addr} (o : Own K mg F H v c l) : ∀ {vs : List V} {cs : List Cell} {l0 : List Addr}, OwnAll K mg F H vs cs l0 → (∀ a ∈ l0, a ∉ l) → OwnAll K mg F H (vs ++ [v]) (cs ++ [c]) (l0 ++ l)
  | _, _, _, .nil, _ => by
    have := OwnAll.cons (l' := []) o .nil (fun a _ h => by cases h)
    simpa using this
  | _, _, _, .cons h1 h2 h3, d => by
    rw [List.append_assoc]
    refine .cons h1 (OwnAll.snoc o h2 fun a ha => d a (by simp [ha])) fun a ha hb => ?_
    rcases List.mem_append.mp hb with q | q
    · exact h3 a ha q
    · exact d a (by simp [ha]) q
/-- a list within is changed -/
theorem OwnAll.at : ∀ {vs : List V} {cs : List Cell} {l : List Addr} {j : Nat} {ds : List D}, OwnAll K mg F H vs cs l → cs[j]? = some (.ow ds) →
    ∃ b xs, vs[j]? = some (.ref b) ∧ b ∈ l ∧ F b = none ∧ H b = some (.lst xs) ∧ DqAll K F xs ds ∧ ∀ xs' ds', DqAll K F xs' ds' → OwnAll K mg F (upd H b (.lst xs')) vs (cs.set j (.ow ds')) l
  | _, _, _, _, _, .nil, h => by simp at h
  | _, _, _, 0, _, .cons h1 h2 h3, h => by
    simp at h
    subst h
    cases h1 with
    | ow f1 f2 f3 =>
      refine ⟨_, _, rfl, by simp, f1, f2, f3, fun xs' ds' d => ?_⟩
      refine .cons (.ow f1 upd_same d) (OwnAll.frame (Same.refl _) h2 (fun a ha ob e _ => ?_) (fun a ha => (h2.free a ha).1)) h3
      rw [upd_ne (fun q => by subst q; exact h3 _ (by simp) ha)]; exact e
  | _, _, _, j + 1, _, .cons h1 h2 h3, h => by
    obtain ⟨b, xs, e1, e2, e3, e4, e5, e6⟩ := OwnAll.at (j := j) h2 (by simpa using h)
    refine ⟨b, xs, by simpa using e1, by simp [e2], e3, e4, e5, fun xs' ds' d => ?_⟩
    refine .cons (Own.frame (Same.refl _) h1 (fun a ha ob e _ => ?_) (fun a ha => (h1.free a ha).1)) (e6 xs' ds' d) h3
    rw [upd_ne (fun q => by subst q; exact h3 _ ha e2)]; exact e
theorem atL_own {i : Nat} {cs : List Cell} (L : LOk K mg F H σ env fp) (h : atL i env = some cs) : ∃ a vs l, σ[i]? = some (some (.ref a)) ∧ F a = none ∧ H a = some (.lst vs) ∧ OwnAll K mg F H vs cs l ∧ a ∉ l ∧ fp i = a :: l ∧ ∃ c, env[i]? = some (some c) := by
  unfold atL at h
  split at h
  · rename_i q
    cases h
    obtain ⟨v, hv, ow⟩ := L.slot i _ q
    generalize hl : fp i = l at ow
    cases ow with
    | tl f1 f2 f3 f4 => exact ⟨_, _, _, hv, f1, f2, f3, f4, rfl, _, q⟩
  · rename_i q
    cases h
    obtain ⟨v, hv, ow⟩ := L.slot i _ q
    generalize hl : fp i = l at ow
    cases ow with
    | ow f1 f2 f3 =>
      cases f3
      exact ⟨_, _, [], hv, f1, f2, .nil, (fun z => by cases z), rfl, _, q⟩
  · cases h
/-- a thing of our own at slot i is changed; it may take up what is in no slot -/
theorem LOk.mutG (L : LOk K mg F H σ env fp) {i : Nat} {a : Addr} {o : HO} {c c' : Cell} {v : V} {l' : List Addr} (hc : env[i]? = some (some c)) (hv : σ[i]? = some (some v)) (ha : a ∈ fp i)
    (ow : Own K mg F (upd H a o) v c' l') (hl : ∀ b ∈ l', b ∈ fp i ∨ ¬ U fp b) : LOk K mg F (upd H a o) σ (env.set i (some c')) (fpSet fp i l') := by
  have hi : i < env.length := lt_of_get hc
  have fa := L.free ⟨i, ha⟩
  have same' : Same F (upd H a o) := fun b x e => by
    rw [upd_ne (fun q => by rw [q, fa.1] at e; cases e)]; exact L.same _ _ e
  refine ⟨same', fun j c'' q => ?_, fun j q => ?_, fun j k b hjk hj hk => ?_, by rw [List.length_set]; exact L.len, L.tab.step (.upd (.inr fa.2)), L.ntf⟩
  · by_cases e : j = i
    · subst e
      rw [List.getElem?_set_self hi] at q
      cases q
      rw [fpSet_same]
      exact ⟨v, hv, ow⟩
    · rw [List.getElem?_set_ne (Ne.symm e)] at q
      obtain ⟨w, hw, ow'⟩ := L.slot j c'' q
      rw [fpSet_ne e]
      exact ⟨w, hw, ow'.frame (Same.refl _) (fun b m ob z _ => by rw [upd_ne (fun q => by rw [q] at m; exact L.dis j i a e m ha)]; exact z) fun b m => (ow'.free b m).1⟩
  · by_cases e : j = i
    · subst e
      exact absurd (List.getElem?_set_self hi) (q c')
    · rw [fpSet_ne e]
      exact L.emp j fun c'' => by have := q c''; rwa [List.getElem?_set_ne (Ne.symm e)] at this
  · by_cases e : j = i
    · subst e
      rw [fpSet_same] at hj
      rw [fpSet_ne (Ne.symm hjk)] at hk
      rcases hl b hj with z | z
      · exact L.dis j k b hjk z hk
      · exact z ⟨k, hk⟩
    · rw [fpSet_ne e] at hj
      by_cases e2 : k = i
      · subst e2
        rw [fpSet_same] at hk
        rcases hl b hk with z | z
        · exact L.dis k j b (Ne.symm hjk) z hj
        · exact z ⟨j, hj⟩
      · rw [fpSet_ne e2] at hk
        exact L.dis j k b hjk hj hk
theorem Mv.mutG {p : Bool} (m : Mv p F H fp F1 H1 fp1) {i : Nat} {a : Addr} {o : HO} {l' : List Addr} (ha : a ∈ fp1 i) (hl : ∀ b ∈ l', b ∈ fp1 i ∨ U fp b ∨ H b = none) : Mv false F H fp F1 (upd H1 a o) (fpSet fp1 i l') := by
  refine ⟨m.f, fun b ob e nt q => ?_, m.n, fun b u => ?_, fun b e => m.d b (dom_upd b e)⟩
  · have hne : b ≠ a := fun z => by
      subst z
      rcases m.u b ⟨i, ha⟩ with u | u
      · exact q rfl u
      · rw [e] at u; cases u
    rw [upd_ne hne]; exact m.h b ob e nt (fun _ => q rfl)
  · rcases U_fpSet u with z | ⟨j, _, z⟩
    · rcases hl b z with w | w
      · exact m.u b ⟨i, w⟩
      · exact w
    · exact m.u b ⟨j, z⟩
end
section
variable {X : Cx} {W : WX} {ro : List Nat} {p q : Bool} {a k : Expr} {es : List Expr} {pos pos' : Pos}
theorem sj_appC {i : Nat} {f : M Cell} {x : Str} {apos npos : Pos} (ha : EC X W p a f)
    (hN : X.N[i]? = some x := by rfl) (hv : Vis X.env.scope x := by first | exact Or.inl rfl | exact Or.inr (Or.inl rfl) | exact Or.inr (Or.inr rfl)) (hd : (x == ("__debug__" : Str)) = false := by decide) (hcd : (x == ("__classdict__" : Str)) = false := by decide)
    (hbase : attributeBase (.Name x npos) "append" X.env (eval (.Name x npos) X.env) = eval (.Name x npos) X.env := by rfl)
    (hfew : ((backTo pos (starEach [a] X.env)).all (fun x => !x.1) && (backToKw pos (keywordEach [] X.env)).all (fun x => x.1.isSome)
      && decide ([a].length + ([] : List Keyword).length + (if ([] : List Keyword).isEmpty then 0 else 1) < 30)) = true := by rfl)
    (hline : (apos.endLine == pos.line) = true := by rfl) (hs : starEach [a] X.env = (false, eval a X.env) :: starEach [] X.env := by rfl) (hplain : (backTo pos (starEach [] X.env)).any (·.1) = false := by rfl)
    (hsw : swapsWith (.Call (.Attribute (.Name x npos) "append" apos) [a] [] pos) none pos'.line X.env = pure false := by rfl) :
    SJ X W ro (.Expr (.Call (.Attribute (.Name x npos) "append" apos) [a] [] pos) pos') (sAppC i f) := by
  obtain ⟨t, h, kk⟩ := ha
  refine ⟨_, ps_expr (pe_bm F.plainAttrs_list F.slot_list_append F.type_list_append mt_append (pe_var hN hv hd hcd) (pa_cons h pa_nil hs) hbase hfew hline hs hplain) hsw, fun F H σ env fp N L P => ?_⟩
  unfold sAppC at P
  cases h0 : atL i env with
  | none => rw [h0] at P; exact P.elim
  | some cs0 =>
    simp only [h0] at P
    obtain ⟨a0, vs0, l0, hσ, _, hH, _⟩ := atL_own L h0
    refine ⟨_, hσ, .inl ⟨rfl, _, .inl (Rd.of hH)⟩, kk F H σ env fp _ L ((wpS.expr0 P).imp fun c e1 F1 H1 fp1 _ L1 ⟨m, z⟩ v n => ?_)⟩
    cases h1 : atL i e1 with
    | none => simp only [h1] at z; exact z.elim
    | some cs =>
      simp only [h1] at z
      split at z
      · rename_i hz
        obtain ⟨a1, vs1, l1, hσ1, fa, hH1, oa, nin, hfp, c1, hc1⟩ := atL_own L1 h1
        rw [hσ] at hσ1
        cases hσ1
        obtain ⟨l, o, d, nw⟩ := n
        have hai : a0 ∈ fp1 i := by rw [hfp]; simp
        have hl1 : ∀ b ∈ l1, b ∈ fp1 i := fun b hb => by rw [hfp]; simp [hb]
        have hal : a0 ∉ l := fun z => d _ z ⟨i, hai⟩
        refine ⟨a0, vs1, v, rfl, rfl, hH1, by rw [oa.len]; exact hz, ?_⟩
        have own : Own X.K X.mg F1 (upd H1 a0 (.lst (vs1 ++ [v]))) (.ref a0) (.tl (cs ++ [c])) (a0 :: (l1 ++ l)) := by
          refine .tl fa upd_same (OwnAll.snoc (Own.frame (Same.refl _) o (fun b hb ob e _ => ?_) (fun b hb => (o.free b hb).1)) (OwnAll.frame (Same.refl _) oa (fun b hb ob e _ => ?_) (fun b hb => (oa.free b hb).1)) fun b hb hb2 => d b hb2 ⟨i, hl1 b hb⟩) (fun z => ?_)
          · rw [upd_ne (fun q => by subst q; exact hal hb)]; exact e
          · rw [upd_ne (fun q => by subst q; exact nin hb)]; exact e
          · rcases List.mem_append.mp z with z | z
            · exact nin z
            · exact hal z
        have hl : ∀ b ∈ a0 :: (l1 ++ l), b ∈ fp1 i ∨ b ∈ l := fun b hb => by
          rcases List.mem_cons.mp hb with z | z
          · subst z; exact .inl hai
          · rcases List.mem_append.mp z with z | z
            · exact .inl (hl1 b z)
            · exact .inr z
        exact z σ F1 _ _ (m.mutG hai fun b hb => (hl b hb).imp id (nw b)) (L1.mutG hc1 hσ hai own fun b hb => (hl b hb).imp id (d b)) (Ro.rfl' σ)
      · exact z.elim
theorem sj_appAt {i : Nat} {fk f : M D} {x : Str} {apos spos npos : Pos} (hk : EP X W true k fk) (ha : ES X W true a f)
    (hN : X.N[i]? = some x := by rfl) (hv : Vis X.env.scope x := by first | exact Or.inl rfl | exact Or.inr (Or.inl rfl) | exact Or.inr (Or.inr rfl)) (hd : (x == ("__debug__" : Str)) = false := by decide) (hcd : (x == ("__classdict__" : Str)) = false := by decide)
    (hpl : PlainIx k := by exact fun _ _ => rfl)
    (hbase : attributeBase (.Subscript (.Name x npos) k spos) "append" X.env (eval (.Subscript (.Name x npos) k spos) X.env) = eval (.Subscript (.Name x npos) k spos) X.env := by rfl)
    (hfew : ((backTo pos (starEach [a] X.env)).all (fun x => !x.1) && (backToKw pos (keywordEach [] X.env)).all (fun x => x.1.isSome)
      && decide ([a].length + ([] : List Keyword).length + (if ([] : List Keyword).isEmpty then 0 else 1) < 30)) = true := by rfl)
    (hline : (apos.endLine == pos.line) = true := by rfl) (hs : starEach [a] X.env = (false, eval a X.env) :: starEach [] X.env := by rfl) (hplain : (backTo pos (starEach [] X.env)).any (·.1) = false := by rfl)
    (hsw : swapsWith (.Call (.Attribute (.Subscript (.Name x npos) k spos) "append" apos) [a] [] pos) none pos'.line X.env = pure false := by rfl) :
    SJ X W ro (.Expr (.Call (.Attribute (.Subscript (.Name x npos) k spos) "append" apos) [a] [] pos) pos') (sAppAt i fk f) := by
  obtain ⟨t, h, kk⟩ := ha
  obtain ⟨tk, hk, kk2⟩ := hk
  refine ⟨_, ps_expr (pe_bm F.plainAttrs_list F.slot_list_append F.type_list_append mt_append (pe_ix ix_list (pe_var hN hv hd hcd) hk hpl) (pa_cons h pa_nil hs) hbase hfew hline hs hplain) hsw, fun F H σ env fp N L P => ?_⟩
  unfold sAppAt at P
  cases h0 : atL i env with
  | none => rw [h0] at P; exact P.elim
  | some cs0 =>
    simp only [h0] at P
    obtain ⟨a0, vs0, l0, hσ, _, hH, _⟩ := atL_own L h0
    refine ⟨_, hσ, kk2 F H σ env fp _ L ((wpS.expr0 P).imp fun kd e1 F1 H1 fp1 m1 L1 ⟨m, z⟩ vk pk => ?_)⟩
    cases kd with
    | int n =>
      simp only at z
      cases h1 : atL i e1 with
      | none => simp only [h1, Option.bind_none] at z; exact z.elim
      | some cs =>
        obtain ⟨a1, vs1, l1, hσ1, fa, hH1, oa, nin, hfp, c1, hc1⟩ := atL_own L1 h1
        rw [hσ] at hσ1
        cases hσ1
        have ev := pk.int
        subst ev
        simp only [h1, Option.bind_some] at z
        cases h2 : owAt n cs with
        | none => simp only [h2] at z; exact z.elim
        | some ds0 =>
          simp only [h2] at z
          unfold owAt at h2
          cases h3 : ixN cs.length n with
          | none => rw [h3] at h2; cases h2
          | some j =>
            rw [h3] at h2
            simp only [Option.bind_some] at h2
            split at h2
            · rename_i ds1 hj
              cases h2
              obtain ⟨b, xs, e1', e2', e3', e4', e5', e6'⟩ := oa.at hj
              refine ⟨a0, vs1, n, .ref b, rfl, rfl, .inl (Rd.of hH1), ?_, .inl ⟨rfl, _, .inl (Rd.of e4')⟩, kk F1 H1 σ e1 fp1 _ L1 ((wpS.expr0 (wpS.from (m.le (fun z => by cases z)) (Ro.rfl' σ) z)).imp fun d e2 F2 H2 fp2 m2 L2' ⟨m2', z⟩ v dv => ?_)⟩
              · unfold atI; rw [oa.len, h3]; exact e1'
              · cases h4 : atL i e2 with
                | none => simp only [h4, Option.bind_none] at z; exact z.elim
                | some cs2 =>
                  simp only [h4, Option.bind_some] at z
                  obtain ⟨a2, vs2, l2, hσ2, fa2, hH2, oa2, nin2, hfp2, c2, hc2⟩ := atL_own L2' h4
                  rw [hσ] at hσ2
                  cases hσ2
                  have hv2 := m2.h _ _ hH1 (fun _ z => by cases z) (fun z => by cases z)
                  rw [hH2] at hv2
                  cases hv2
                  unfold appAt at z
                  rw [← oa2.len, oa.len, h3] at z
                  simp only [Option.bind_some] at z
                  cases h5 : cs2[j]? with
                  | none => simp only [h5] at z; exact z.elim
                  | some cj =>
                    cases cj with
                    | ow ds =>
                      simp only [h5] at z
                      split at z
                      · rename_i hif
                        split at hif
                        · rename_i hz
                          cases hif
                          obtain ⟨b2, xs2, g1, g2, g3, g4, g5, g6⟩ := oa2.at h5
                          rw [e1'] at g1
                          cases g1
                          refine ⟨b, xs2, v, rfl, rfl, g4, by rw [g5.len]; exact hz, ?_⟩
                          have hbi : b ∈ fp2 i := by rw [hfp2]; simp [g2]
                          have hba : a0 ≠ b := fun q => by subst q; exact nin2 g2
                          have own : Own X.K X.mg F2 (upd H2 b (.lst (xs2 ++ [v]))) (.ref a0) (.tl (cs2.set j (.ow (ds ++ [d])))) (a0 :: l2) :=
                            .tl fa2 (by rw [upd_ne hba]; exact hH2) (g6 _ _ (g5.append (.cons dv .nil))) nin2
                          exact z σ F2 _ _ (m2'.mutG hbi fun b hb => by
                            rw [hfp2]; exact .inl hb) (L2'.mutG hc2 hσ hbi own fun b hb => by rw [hfp2]; exact .inl hb) (Ro.rfl' σ)
                        · cases hif
                      · exact z.elim
                    | _ => simp only [h5] at z; exact z.elim
            · cases h2
    | _ => exact z.elim
end
end DL

set_option Elab.async false
set_option linter.all false
set_option maxRecDepth 100000
set_option maxHeartbeats 4000000
/-! DL, part dd: a dict that is written with texts as keys and asked at once. -/
namespace DL
open PySem PySem.Spec L2
def findS (z : Str) : List Str → List D → Option D
  | k :: ks, d :: ds => if k = z then some d else findS z ks ds
  | _, _ => none
def dixD (ks : List Str) (ds : List D) : D → Option Cell
  | .str z => (findS z ks ds).map .fz
  | _ => none
def mDix (ks : List Str) (f : M (List D)) (fi : M D) : M Cell := bnd f fun ds => bnd fi fun k => lift (dixD ks ds k)
theorem putK_end {κ : Type} [DecidableEq κ] {kvs : List (κ × V)} {k : κ} {v : V} (h : k ∉ kvs.map (·.1)) : putK kvs k v = kvs ++ [(k, v)] := by
  unfold putK
  rw [if_neg]
  intro z
  rw [List.any_eq_true] at z
  obtain ⟨kv, m, e⟩ := z
  exact h (List.mem_map.mpr ⟨kv, m, of_decide_eq_true e⟩)
theorem mergeK_nd : ∀ {more kvs : List (Key × V)}, ((kvs ++ more).map (·.1)).Nodup → mergeK kvs more = kvs ++ more
  | [], kvs, _ => by simp [mergeK]
  | (k, v) :: more, kvs, h => by
    have hk : k ∉ kvs.map (·.1) := by
      rw [List.map_append, List.map_cons, List.nodup_append] at h
      exact fun m => h.2.2 k m k (by simp) rfl
    have e : mergeK kvs ((k, v) :: more) = mergeK (putK kvs k v) more := rfl
    rw [e, putK_end hk]
    have := mergeK_nd (more := more) (kvs := kvs ++ [(k, v)]) (by simpa using h)
    rw [this]; simp
def kvZ (ks : List Str) (vs : List V) : List (Key × V) := (ks.map Sum.inr).zip vs
theorem kvZ_keys : ∀ {ks : List Str} {vs : List V}, ks.length = vs.length → (kvZ ks vs).map (·.1) = ks.map Sum.inr := by
  intro ks vs h
  unfold kvZ
  rw [List.map_fst_zip (by simp [h])]
theorem findS_val {K : PySem.W.Frag} {F : Hp} {z : Str} {d : D} : ∀ {ks : List Str} {vs : List V} {ds : List D}, DqAll K F vs ds → findS z ks ds = some d → ∃ v, valV (kvZ ks vs) (Sum.inr z) = some v ∧ Dq K F v d
  | [], _, _, _, h => by simp [findS] at h
  | k :: ks, _, _, .nil, h => by simp [findS] at h
  | k :: ks, v :: vs, d' :: ds, .cons h1 h2, h => by
    rw [findS] at h
    by_cases e : k = z
    · rw [if_pos e] at h; cases h
      exact ⟨v, by unfold kvZ; exact valV_pos (congrArg Sum.inr e), h1⟩
    · rw [if_neg e] at h
      obtain ⟨v', q1, q2⟩ := findS_val h2 h
      exact ⟨v', by
        have : valV (kvZ (k :: ks) (v :: vs)) (Sum.inr z) = valV (kvZ ks vs) (Sum.inr z) := valV_neg (fun q => e (Sum.inr.inj q))
        rw [this]; exact q1, q2⟩
section
variable {X : Cx} {W : WX} {p q : Bool} {e i v : Expr} {pos pos' kpos : Pos} {keys : List (Option Expr)} {values : List Expr}
/-- the pairs of a display: keys texts -/
def DP (X : Cx) (W : WX) (pos : Pos) (ks : List Str) (keys : List (Option Expr)) (values : List Expr) (f : M (List D)) : Prop := ∃ trs, PPs X pos keys values trs ∧ keys.all (·.isSome) = true ∧ keys.length = values.length ∧ ks.length = keys.length ∧
  ∀ (F H : Hp) (σ : L2.St) (env : LE) (fp : FP) (Q : List (V × V) → Hp → Prop), LOk X.K X.mg F H σ env fp →
  wpE X W true F H σ fp (f env) (fun ds _ F' H' _ => ∀ vs, DqAll X.K F' vs ds → ks.length = vs.length → Q ((ks.map V.str).zip vs) H') → tPairs trs σ H Q
theorem dp_nil : DP X W pos [] [] [] mNil := ⟨_, pps_nil, rfl, rfl, rfl, fun F H σ env fp Q L P => P.ret L [] .nil rfl⟩
theorem dp_cons {k : Str} {ks : List Str} {j} {f : M D} {g : M (List D)} (hv : ES X W true v f) (hr : DP X W pos ks keys values g) : DP X W pos (k :: ks) (some (.Constant (.str k) j kpos) :: keys) (v :: values) (mCons f g) := by
  obtain ⟨t, h, kk⟩ := hv
  obtain ⟨trs, h2, a1, a2, a3, k2⟩ := hr
  refine ⟨_, pps_cons pe_str h h2, by simpa using a1, by simpa using a2, by simpa using a3, fun F H σ env fp Q L P => ?_⟩
  refine kk F H σ env fp _ L (P.bnd.imp fun d e1 F1 H1 fp1 m1 L1 z v dv => k2 F1 H1 σ e1 fp1 _ L1 (z.bnd.imp fun ds e2 F2 H2 fp2 m2 L2' z vs dvs hl => ?_))
  exact z.ret L2' (v :: vs) (.cons (Dq_mono m2.f _ _ dv) dvs) (by simp [hl])
theorem zip_kV : ∀ {ks : List Str} {vs : List V}, (ks.map V.str).zip vs = (kvZ ks vs).map fun kv => (kV kv.1, kv.2)
  | [], vs => by simp [kvZ]
  | k :: ks, [] => by simp [kvZ]
  | k :: ks, v :: vs => by
    have := zip_kV (ks := ks) (vs := vs)
    unfold kvZ at this ⊢
    simp only [List.map_cons, List.zip_cons_cons, this]
    rfl
theorem ec_dix {ks : List Str} {f : M (List D)} {fi : M D} (hu : X.A.units + 65 < cLine) (hv : DP X W pos ks keys values f) (hi : EP X W true i fi) (h0 : keys ≠ [] := by exact fun z => List.cons_ne_nil _ _ z) (h15 : keys.length ≤ 15 := by decide) (nd : ks.Nodup := by decide) (hs : NoSl i := by exact fun _ _ => rfl) :
    EC X W true (.Subscript (.Dict keys values pos) i pos') (mDix ks f fi) := by
  obtain ⟨trs, h, a1, a2, a3, k⟩ := hv
  obtain ⟨ti, h2, k2⟩ := hi
  refine ⟨_, pe_dget (by omega) (pe_disp h a1 a2 h0 h15) h2 hs, fun F H σ env fp Q L P => ?_⟩
  intro a ha
  obtain ⟨L0, m0, fa, ua⟩ := L.newO (o := .dK []) ha
  cases hf : f env with
  | no => unfold mDix DL.bnd at P; rw [hf] at P; exact P.elim
  | ex c e' =>
    unfold mDix DL.bnd at P; rw [hf] at P
    refine k F _ σ env fp _ L0 ?_
    rw [hf]
    exact P.from m0 (r := (Re.ex c e' : Re Cell))
  | ok ds e1 =>
  unfold mDix at P
  rw [show DL.bnd f (fun ds => DL.bnd fi fun k => lift (dixD ks ds k)) env = DL.bnd fi (fun k => lift (dixD ks ds k)) e1 by simp only [DL.bnd, hf]] at P
  refine k F _ σ env fp _ L0 ?_
  rw [hf]
  intro F1 H1 fp1 m1 L1 vs dvs hl
  have na : ¬ U fp1 a := fun u => by
    rcases m1.u a u with u | e
    · exact ua u
    · rw [upd_same] at e; cases e
  have f1 : F1 a = none := by
    cases q : F1 a with
    | none => rfl
    | some o =>
      rcases m1.n a o q with e | e | u
      · rw [fa] at e; cases e
      · rw [upd_same] at e; cases e
      · exact absurd u ua
  have h1 : H1 a = some (.dK []) := m1.h a _ upd_same (fun _ z => by cases z) (fun z => by cases z)
  have kn : (kvZ ks vs).map (·.1) = ks.map Sum.inr := kvZ_keys hl
  have mg : mergeK [] (kvZ ks vs) = kvZ ks vs := by
    rw [mergeK_nd]
    · rfl
    · rw [List.nil_append, kn]
      unfold List.Nodup at nd ⊢
      rw [List.pairwise_map]
      exact nd.imp fun h q => h (Sum.inr.inj q)
  refine ⟨h1, kvZ ks vs, zip_kV, ?_, ?_⟩
  · have : (kvZ ks vs).length ≤ ks.length := by unfold kvZ; rw [List.length_zip, List.length_map]; omega
    omega
  rw [mg]
  have M1 := m0.trans m1
  have so : Same F1 (upd H1 a (.dK (kvZ ks vs))) := fun b x e => by
    rw [upd_ne (fun q => by rw [q, f1] at e; cases e)]; exact L1.same _ _ e
  have L2' : LOk X.K X.mg F1 (upd H1 a (.dK (kvZ ks vs))) σ e1 fp1 := L1.ext (Same.refl _) so (fun b o u e _ => by
      rw [upd_ne (fun q => by rw [q] at u; exact na u)]; exact e) (fun b u => (L1.free u).1) (L1.tab.step (.upd (.inr ⟨_, h1, (fun _ z => by cases z), (fun _ _ z => by unfold LamX.CodeO at z; cases z)⟩))) L1.ntf
  have M2 : Mv true F H fp F1 (upd H1 a (.dK (kvZ ks vs))) fp1 := by
    refine ⟨M1.f, fun b o e nt q => ?_, M1.n, M1.u, fun b e => M1.d b (dom_upd b e)⟩
    rw [upd_ne (fun z => by rw [z, ha] at e; cases e)]
    exact M1.h b o e nt q
  refine k2 F1 _ σ e1 fp1 _ L2' ((P.from M2).bnd.imp fun kd e2 F2 H2 fp2 m2 L3 z v pk => ?_)
  obtain ⟨c, hc, z⟩ := z.lift
  have h2 : H2 a = some (.dK (kvZ ks vs)) := m2.h a _ upd_same (fun _ z => by cases z) (fun z => by cases z)
  cases kd with
  | str x =>
    simp only [dixD] at hc
    cases hd : findS x ks ds with
    | none => rw [hd] at hc; cases hc
    | some d =>
      rw [hd] at hc; cases hc
      obtain ⟨w, hw, dw⟩ := findS_val dvs hd
      have g := DGet.k (k := (.inr x : Key)) h2
      rw [hw] at g
      rw [pk.str]
      exact ⟨a, w, rfl, g, z F2 H2 fp2 (Mv.refl _ _ _ _) L3 w ⟨[], .fz (Dq_mono m2.f _ _ dw), (fun _ m => by cases m), (fun _ m => by cases m)⟩⟩
  | _ => simp [dixD] at hc
end
end DL

set_option Elab.async false
set_option linter.all false
set_option maxRecDepth 100000
set_option maxHeartbeats 4000000
/-! DL, part ee: tuples of our own; looks at what is our own. -/
namespace DL
open PySem PySem.Spec L2
def oNil : M (List Cell) := ret []
def oCons (f : M Cell) (g : M (List Cell)) : M (List Cell) := bnd f fun c => bnd g fun cs => ret (c :: cs)
def mTT (f : M (List Cell)) : M Cell := bnd f fun cs => if cs.length ≤ 16777216 then ret (.tt cs) else stuck
def setCs : List Nat → List Cell → LE → Option LE
  | [], [], e => some e
  | i :: is, c :: cs, e => if i < e.length then setCs is cs (e.set i (some c)) else none
  | _, _, _ => none
def setUC (is : List Nat) : Cell → LE → Option LE
  | .tt cs, e => setCs is cs e
  | .fz (.tuple ds), e => setCs is (ds.map .fz) e
  | _, _ => none
def stUC (is : List Nat) (c : Cell) : ST := fun e => match setUC is c e with
  | some e2 => .nx e2
  | none => .no
def sUnC (is : List Nat) (f : M Cell) : ST := sE f (stUC is)
def lk (i : Nat) : M D := fun e => match e[i]? with
  | some (some c) => (match c.data with
    | some d => .ok d e
    | none => .no)
  | _ => .no
section
variable {K : PySem.W.Frag} {mg : Str → Option Value} {F F' H H' : Hp} {σ : L2.St} {env : LE} {fp : FP}
theorem TupN_ext {a : Addr} {xs : List V} (e : LamX.ExtN H H') (h : TupN K H a xs) : TupN K H' a xs := by
  rcases h with ⟨o, h, d⟩ | h
  · exact .inl ⟨o, e _ _ h (fun _ z => by cases z), d⟩
  · exact .inr h
mutual
theorem Dq_ext (e : LamX.ExtN H H') : ∀ (d : PyData) (v : V), Dq K H v d → Dq K H' v d
  | .none, _, h => by cases h; exact .non
  | .bool b, _, h => by cases h; exact .bl b
  | .int i, _, h => by cases h; exact .int i
  | .str s, _, h => by cases h; exact .str s
  | .list ds, _, h => by
    cases h with
    | lst hs ha => exact .lst (SqL_ext e hs) (DqAll_ext e ds _ ha)
  | .tuple ds, _, h => by
    cases h with
    | tup hs ha => exact .tup (TupN_ext e hs) (DqAll_ext e ds _ ha)
  | .dict _, _, h => by cases h
theorem DqAll_ext (e : LamX.ExtN H H') : ∀ (ds : List PyData) (vs : List V), DqAll K H vs ds → DqAll K H' vs ds
  | [], _, h => by cases h; exact .nil
  | d :: ds, _, h => by
    cases h with
    | cons h1 h2 => exact .cons (Dq_ext e d _ h1) (DqAll_ext e ds _ h2)
end
theorem Mv.extN {fp1 : FP} {F1 H1 : Hp} (m : Mv true F H fp F1 H1 fp1) : LamX.ExtN H H1 := fun a o e n => m.h a o e n (fun z => by cases z)
/-- in a heap known whole -/
theorem New.back (L : LOk K mg F H σ env fp) (n : New H H F' H') : New F H F H' :=
  ⟨Same.refl _, n.h, fun _ _ e => .inl e, fun a o e => n.h _ _ (L.same _ _ e) (L.ntf _ _ e), n.d, fun _ _ e => .inl e⟩
theorem OwnAll.fzs : ∀ {vs : List V} {ds : List D}, DqAll K F vs ds → OwnAll K mg F H vs (ds.map .fz) []
  | _, _, .nil => .nil
  | _, _, .cons h t => .cons (l := []) (.fz h) (OwnAll.fzs t) (fun _ m => by cases m)
end
section
variable {X : Cx} {W : WX} {p q : Bool} {ro : List Nat} {e a b : Expr} {es tgs : List Expr} {pos : Pos}
/-- expressions whose values are our own -/
def AO (X : Cx) (W : WX) (p : Bool) (es : List Expr) (f : M (List Cell)) : Prop := ∃ t, PA X es t ∧ ∀ (F H : Hp) (σ : L2.St) (env : LE) (fp : FP) (Q : List V → Hp → Prop), LOk X.K X.mg F H σ env fp →
  wpE X W p F H σ fp (f env) (fun cs _ F' H' fp' => ∀ vs l, OwnAll X.K X.mg F' H' vs cs l → (∀ a ∈ l, ¬ U fp' a) → (∀ a ∈ l, U fp a ∨ H a = none) → Q vs H') → t σ H Q
theorem ao_nil : AO X W p [] oNil := ⟨_, pa_nil, fun F H σ env fp Q L P => P F H fp (Mv.refl _ _ _ _) L [] [] .nil (fun _ m => by cases m) (fun _ m => by cases m)⟩
theorem ao_cons {f : M Cell} {g : M (List Cell)} (ha : EC X W p a f) (hb : AO X W p es g) (hs : starEach (a :: es) X.env = (false, eval a X.env) :: starEach es X.env := by rfl) : AO X W p (a :: es) (oCons f g) := by
  obtain ⟨t, h, k⟩ := ha
  obtain ⟨t2, h2, k2⟩ := hb
  refine ⟨_, pa_cons h h2 hs, fun F H σ env fp Q L P => k F H σ env fp _ L (P.bnd.imp fun c e1 F1 H1 fp1 m1 L1 z v ⟨l, o, d, nw⟩ => k2 F1 H1 σ e1 fp1 _ L1 (z.bnd.imp fun cs e2 F2 H2 fp2 m2 L2' z vs l2 oa d2 nw2 => ?_))⟩
  obtain ⟨o', d'⟩ := m2.own o d
  refine z.ret L2' (v :: vs) (l ++ l2) (.cons o' oa fun x hx hx2 => ?_) (fun x hx => ?_) (fun x hx => ?_)
  · rcases nw2 x hx2 with u | u
    · exact d x hx u
    · obtain ⟨_, ob, w, _⟩ := o.free x hx
      rw [w] at u; cases u
  · rcases List.mem_append.mp hx with r | r
    · exact d' x r
    · exact d2 x r
  · rcases List.mem_append.mp hx with r | r
    · exact nw x r
    · rcases nw2 x r with u | u
      · exact m1.u x u
      · exact .inr (m1.d x u)
theorem ec_tt {x1} {f : M (List Cell)} (h : AO X W p es f) : EC X W p (.Tuple es x1 pos) (mTT f) := by
  obtain ⟨t, h, k⟩ := h
  refine ⟨_, pe_tupZ h, fun F H σ env fp Q L P => k F H σ env fp _ L (P.bnd.imp fun cs e1 F1 H1 fp1 m1 L1 z vs l oa d nw => ?_)⟩
  by_cases hz : cs.length ≤ 16777216
  · rw [if_pos hz] at z
    refine ⟨by rw [oa.len]; exact hz, fun a o ha hd => ?_⟩
    obtain ⟨L2', m2, fa, ua⟩ := L1.newO (o := .frz o (.tup vs)) ha
    have nin : a ∉ l := fun m => by
      obtain ⟨_, ob, w, _⟩ := oa.free a m
      rw [ha] at w; cases w
    refine z _ _ _ m2.weak L2' _ ⟨a :: l, .tt fa upd_same hd (OwnAll.frame (Same.refl _) oa (fun b hb ob e _ => ?_) (fun b hb => (oa.free b hb).1)) nin, fun b hb => ?_, fun b hb => ?_⟩
    · rw [upd_ne (fun q => by subst q; exact nin hb)]; exact e
    · rcases List.mem_cons.mp hb with r | r
      · subst r; exact ua
      · exact d b r
    · rcases List.mem_cons.mp hb with r | r
      · subst r; exact .inr (m1.d _ ha)
      · exact nw b r
  · rw [if_neg hz] at z; exact z.elim
/-- names that take what is our own -/
def TCs (X : Cx) (tgs : List Expr) (ts : List Nat) : Prop := ∃ t, PGs X tgs t ∧ ∀ (F H : Hp) (σ : L2.St) (env e' : LE) (fp : FP) (vs : List V) (cs : List Cell) (l : List Addr) (Q : L2.St → Hp → Prop), LOk X.K X.mg F H σ env fp → OwnAll X.K X.mg F H vs cs l → (∀ a ∈ l, ¬ U fp a) → setCs ts cs env = some e' →
  (∀ σ' fp', LOk X.K X.mg F H σ' e' fp' → (∀ a, U fp' a → U fp a ∨ a ∈ l) → SetOn ts σ σ' → Q σ' H) → t vs σ H Q
theorem tcs_nil : TCs X [] [] := ⟨_, pgs_nil, fun F H σ env e' fp vs cs l Q L h nl he q => by
  cases cs with
  | nil => cases h; cases he; exact ⟨rfl, q _ _ L (fun _ u => .inl u) (SetOn.refl _)⟩
  | cons _ _ => cases he⟩
theorem tcs_cons (i : Nat) {x : Str} {es : List Expr} {is : List Nat} (hN : X.N.Nodup) (h2 : TCs X es is) (hi : X.N[i]? = some x := by rfl) (hx : Loc X.env.scope x := by first | exact Or.inl rfl | exact Or.inr rfl) (hf : X.fn x = true ∨ X.env.scope.names.lookup x = some .local := by first | exact .inl rfl | exact .inr rfl)
    (hs : (assignEach ((.Name x pos) :: es) X.env).map (·.2) = assign (.Name x pos) X.env :: (assignEach es X.env).map (·.2) := by rfl) : TCs X (.Name x pos :: es) (i :: is) := by
  obtain ⟨u, h2, k2⟩ := h2
  refine ⟨_, pgs_cons (pg_name hN hi hx hf) h2 hs, fun F H σ env e' fp vs cs l Q L h nl he q => ?_⟩
  cases cs with
  | nil => cases he
  | cons c cs =>
    cases h with
    | @cons v _ l1 l2 vs _ ho hr hd =>
      simp only [setCs] at he
      split at he
      · rename_i hl
        have L1 : LOk X.K X.mg F H (σ.set i (some v)) (env.set i (some c)) (fpSet fp i l1) := L.set hl ho (fun a ha j _ hj => nl a (by simp [ha]) ⟨j, hj⟩)
        refine ⟨v, vs, rfl, ?_⟩
        refine k2 F H _ _ e' _ vs cs l2 _ L1 hr (fun a ha u => ?_) he fun σ2 fp2 L2' u2 s2 => q σ2 fp2 L2' (fun a ua => ?_) (SetOn.one.trans s2)
        · rcases U_fpSet u with z | ⟨j, _, z⟩
          · exact hd a z ha
          · exact nl a (by simp [ha]) ⟨j, z⟩
        · rcases u2 a ua with z | z
          · rcases U_fpSet z with z | ⟨j, _, z⟩
            · exact .inr (by simp [z])
            · exact .inl ⟨j, z⟩
          · exact .inr (by simp [z])
      · cases he
theorem setCs_len : ∀ {is : List Nat} {cs : List Cell} {e e' : LE}, setCs is cs e = some e' → cs.length = is.length
  | [], [], _, _, _ => rfl
  | i :: is, c :: cs, e, e', h => by
    simp only [setCs] at h
    split at h
    · exact congrArg (· + 1) (setCs_len h)
    · cases h
  | [], _ :: _, _, _, h => by cases h
  | _ :: _, [], _, _, h => by cases h
/-- a, b = e, e a tuple, maybe our own -/
theorem sj_unC {is : List Nat} {f : M Cell} {kk : Nat} {tpos : Pos} (hc : X.calm = true) (h : EC X W p e f) (hg : TCs X tgs is) (hro : ∀ i ∈ is, i ∉ ro := by decide) (hn : (assignEach tgs X.env).length = is.length := by rfl) (hst : (assignEach tgs X.env).findIdx? (·.1) = none := by rfl)
    (hs : swapsWithSole [.Tuple tgs kk tpos] e pos.line X.env = pure false := by rfl) (hw : swappedStores [.Tuple tgs kk tpos] e X.env = pure none := by rfl)
    (h1 : (assignEach [.Tuple tgs kk tpos] X.env).map (·.2) = [assign (.Tuple tgs kk tpos) X.env] := by rfl) : SJ X W ro (.Assign [.Tuple tgs kk tpos] e pos) (sUnC is f) := by
  obtain ⟨t, h, k⟩ := h
  obtain ⟨u, hg, kg⟩ := hg
  refine ⟨_, ps_asg h (pg_tup hc hg hn hst) hs hw h1, fun F H σ env fp N L P => k F H σ env fp _ L ((wpS.expr0 P).imp fun c e' F' H' fp' _ L' ⟨m, z⟩ v ⟨l, o, d, nw⟩ => ?_)⟩
  have fin : ∀ (a : Addr) (vs : List V) (cs : List Cell) (l2 : List Addr) (e2 : LE), v = .ref a → SqT X.K H' a vs → OwnAll X.K X.mg F' H' vs cs l2 → (∀ b ∈ l2, b ∈ l) → setCs is cs e' = some e2 → wpS X W ro F H σ fp N (.nx e2) → gTup X.K is.length u v σ H' fun σ2 H2 => N.nx σ2 H2 := by
    intro a vs cs l2 e2 ev hq oa hl he z
    refine ⟨a, vs, ev, hq, by rw [oa.len]; exact setCs_len he, kg F' H' σ e' e2 fp' vs cs l2 _ L' oa (fun b hb => d b (hl b hb)) he fun σ2 fp2 L2' u2 so => ?_⟩
    have m' : Mv false F H fp F' H' fp' := m.le (fun z => by cases z)
    refine z σ2 F' H' fp2 ⟨m'.f, m'.h, m'.n, fun b ub => ?_, m'.d⟩ L2' (so.toRo hro)
    rcases u2 b ub with r | r
    · exact m'.u b r
    · exact nw b (hl b r)
  unfold stUC at z
  cases hsu : setUC is c e' with
  | none => simp only [hsu] at z; exact z.elim
  | some e2 =>
    simp only [hsu] at z
    cases c with
    | tt cs =>
      simp only [setUC] at hsu
      cases o with
      | tt f1 f2 f3 f4 f5 => exact fin _ _ cs _ e2 rfl (.inl (.inr ⟨_, f2⟩)) f4 (fun b hb => by simp [hb]) hsu z
    | fz dd =>
      cases dd with
      | tuple ds =>
        simp only [setUC] at hsu
        cases o with
        | fz hd =>
          cases hd with
          | tup g1 g2 => exact fin _ _ (ds.map .fz) [] e2 rfl (SqT_mono L'.same g1.sq) (OwnAll.fzs g2) (fun b hb => by cases hb) hsu z
      | _ => simp [setUC] at hsu
    | _ => simp [setUC] at hsu
/-! ### looks -/
def EL (X : Cx) (W : WX) (p : Bool) (e : Expr) (f : M D) : Prop := ∃ t, PE X e t ∧ ∀ (F H : Hp) (σ : L2.St) (env : LE) (fp : FP) (Q : VK), LOk X.K X.mg F H σ env fp →
  wpE X W p F H σ fp (f env) (fun d _ F' H' _ => ∀ v, Dq X.K H' v d → Q v H') → t σ H Q
theorem el_var (i : Nat) {x : Str} (hN : X.N[i]? = some x := by rfl) (hv : Vis X.env.scope x := by first | exact Or.inl rfl | exact Or.inr (Or.inl rfl) | exact Or.inr (Or.inr rfl)) (hd : (x == ("__debug__" : Str)) = false := by decide)
    (hcd : (x == ("__classdict__" : Str)) = false := by decide) : EL X W p (.Name x pos) (lk i) := by
  refine ⟨_, pe_var hN hv hd hcd, fun F H σ env fp Q L P => ?_⟩
  cases e : env[i]? with
  | none => simp [lk, e, wpE] at P
  | some o =>
    cases o with
    | none => simp [lk, e, wpE] at P
    | some c =>
      obtain ⟨v, hv, ow⟩ := L.slot i c e
      cases hd : c.data with
      | none => simp [lk, e, hd, wpE] at P
      | some d =>
        simp only [lk, e, hd] at P
        exact ⟨v, hv, P F H fp (Mv.refl _ _ _ _) L v (ow.dp L.same hd fun a m ob e _ => e)⟩
theorem EP.el {f : M D} (h : EP X W p e f) : EL X W p e f := by
  obtain ⟨t, he, k⟩ := h
  exact ⟨t, he, fun F H σ env fp Q L P => k F H σ env fp Q L (P.imp fun c e F' H' fp' m' L' z v pv => z v (pv.dqH L'.same))⟩
theorem newV_flat {F H : Hp} {σ : L2.St} {env : LE} {fp : FP} {d : D} {Q : VK} {p : Bool} (L : LOk X.K X.mg F H σ env fp) (h : ∀ F' H' fp', Mv p F H fp F' H' fp' → LOk X.K X.mg F' H' σ env fp' → ∀ v, Dq X.K H' v d → Q v H') : NewV X H H (.fz d) Q := by
  intro v F' H' l n ts o fresh
  have n2 := New.back L n
  obtain ⟨L', m⟩ := n2.mv (L.tab.step ts) L
  cases o with
  | fz hd => exact h F H' fp m.weak L' v (Dq_mono n.s _ _ hd)
/-- x[k], k written -/
theorem el_ix {f : M D} {i : Int} {j} {kpos : Pos} (ha : EL X W p a f) : EL X W p (.Subscript a (.Constant (.int i) j kpos) pos) (bnd (op2 dIdx f (ret (.int i))) dat) := by
  obtain ⟨t, h, k⟩ := ha
  refine ⟨_, pe_ix opD_idx h pe_int (fun _ _ => rfl), fun F H σ env fp Q L P => k F H σ env fp _ L (P.bnd.bnd.imp fun d e1 F1 H1 fp1 m1 L1 z v dv => ?_)⟩
  have z := z.bnd.ret L1
  cases hc : dIdx d (.int i) with
  | none => rw [hc] at z; exact z.elim
  | some c =>
    rw [hc] at z
    cases c with
    | fz d2 => exact ⟨H1, d, .int i, .fz d2, Same.refl _, .dp dv, .dp (.int i), hc, newV_flat (p := p) L1 fun F' H' fp' m L' v dv => (z F' H' fp' m L') F' H' fp' (Mv.refl _ _ _ _) L' v dv⟩
    | _ => (cases d <;> simp [dIdx] at hc)
def Flat2 (g : D → D → Option Cell) : Prop := ∀ a b c, g a b = some c → ∃ k, c = .fz (.bool k)
theorem flat_eq : Flat2 dEq := fun a b c h => by
  unfold dEq at h
  split at h
  · cases h; exact ⟨_, rfl⟩
  · cases h
theorem flat_ne : Flat2 dNe := fun a b c h => by
  unfold dNe at h
  split at h
  · cases h; exact ⟨_, rfl⟩
  · cases h
theorem rdL {g : D → D → Option Cell} {fa fb : M D} {ta tb : TE} (hf : Flat2 g)
    (ka : ∀ (F H : Hp) (σ : L2.St) (env : LE) (fp : FP) (Q : VK), LOk X.K X.mg F H σ env fp → wpE X W p F H σ fp (fa env) (fun d _ F' H' _ => ∀ v, Dq X.K H' v d → Q v H') → ta σ H Q)
    (kb : ∀ (F H : Hp) (σ : L2.St) (env : LE) (fp : FP) (Q : VK), LOk X.K X.mg F H σ env fp → wpE X W true F H σ fp (fb env) (fun d _ F' H' _ => ∀ v, Dq X.K H' v d → Q v H') → tb σ H Q) : RdC X W p (tOp (rD X g) ta tb) (op2 g fa fb) := by
  intro F H σ env fp Q L P
  refine ka F H σ env fp _ L (P.bnd.imp fun d1 e1 F1 H1 fp1 m1 L1 z v dv => kb F1 H1 σ e1 fp1 _ L1 ((z.bnd.le (fun _ => rfl)).imp fun d2 e2 F2 H2 fp2 m2 L2' z w dw => ?_))
  obtain ⟨c, hg, z⟩ := z.lift
  obtain ⟨kx, rfl⟩ := hf _ _ _ hg
  exact ⟨H2, d1, d2, _, Same.refl _, .dp (Dq_ext m2.extN _ _ dv), .dp dw, hg, newV_flat (p := p) L2' fun F' H' fp' m L' v dv => z F' H' fp' m L' v ⟨[], .fz (by cases dv; exact .bl _), (fun _ m => by cases m), (fun _ m => by cases m)⟩⟩
theorem ec_cmpL {op : CmpOp} {g : D → D → Option Cell} {fa fb : M D} (ho : OpR X (compareOp op) (rD X g)) (hf : Flat2 g) (ha : EL X W p a fa) (hb : EL X W true b fb) (hm : behindInMarks op b = false := by rfl) : EC X W p (.Compare a [op] [b] pos) (op2 g fa fb) := by
  obtain ⟨ta, ha, ka⟩ := ha
  obtain ⟨tb, hb, kb⟩ := hb
  exact ⟨_, pe_cmpR ho ha hb hm, rdL hf ka kb⟩
theorem et_cmpL {op : CmpOp} {g : D → D → Option Cell} {fa fb : M D} (ho : OpR X (compareOp op) (rD X g)) (hf : Flat2 g) (ha : EL X W p a fa) (hb : EL X W true b fb) (hm : behindInMarks op b = false := by rfl) : ET X W p (.Compare a [op] [b] pos) (bnd (op2 g fa fb) asB) := by
  obtain ⟨ta, ha, ka⟩ := ha
  obtain ⟨tb, hb, kb⟩ := hb
  exact ⟨_, pt_cmpR ho ha hb hm, fun F H σ env fp Q L P => RdC.test (rdL hf ka kb) F H σ env fp Q L P⟩
theorem ec_isiL {T : String} {x y : Str} {p0 p1 : Pos} {f : M D} (hm : X.mg x = none) (hv : bootBuiltins x = some (.builtin "isinstance")) (hmT : X.mg y = none) (hvT : bootBuiltins y = some (.type T))
    (hk : ∀ d : D, kitB (tyName d) T = some (isiD T d)) (ha : EL X W p a f) (hg : Gl X x := by rfl) (hgT : Gl X y := by rfl) (hn : x ≠ "__name__" := by decide) (hdb : (x == ("__debug__" : Str)) = false := by decide) (hnT : y ≠ "__name__" := by decide) (hdbT : (y == ("__debug__" : Str)) = false := by decide)
    (hs : starEach [a, .Name y p1] X.env = (false, eval a X.env) :: starEach [.Name y p1] X.env := by rfl) (hs2 : starEach [.Name y p1] X.env = (false, eval (.Name y p1) X.env) :: starEach [] X.env := by rfl)
    (hpl : (backTo pos (starEach [.Name y p1] X.env)).any (·.1) = false := by rfl) : EC X W p (.Call (.Name x p0) [a, .Name y p1] [] pos) (isiM T f) := by
  obtain ⟨t, h, k⟩ := ha
  refine ⟨_, pe_callB call_isi hg hm hv (pa_cons h (pa_cons (pe_bltn (v := .ty T) hgT hmT hvT rfl hnT hdbT) pa_nil hs2) hs) hn hdb hs hpl, fun F H σ env fp Q L P => k F H σ env fp _ L (P.bnd.imp fun d e1 F1 H1 fp1 m1 L1 z v pv => ?_)⟩
  exact ⟨v, .ty T, .type (tyName d), .type T, isiD T d, rfl, .ty T, tyX_of (Same.refl H1) (.dp pv), kit_ty (hk d), z.ret L1 _ ⟨[], .fz (.bl _), (fun _ m => by cases m), (fun _ m => by cases m)⟩⟩
/-! ### x[k].append(d), x a tuple of our own -/
def atT (i : Nat) (e : LE) : Option (List Cell) := match e[i]? with
  | some (some (.tt cs)) => some cs
  | _ => none
def sAppTT (i : Nat) (n : Nat) (f : M D) : ST := fun e => match (atT i e).bind (owAt n) with
  | some _ => sE f (fun d e2 => match (atT i e2).bind (appAt n d) with
    | some cs => .nx (e2.set i (some (.tt cs)))
    | none => .no) e
  | none => .no
theorem atT_own {K : PySem.W.Frag} {mg : Str → Option Value} {F H : Hp} {σ : L2.St} {env : LE} {fp : FP} {i : Nat} {cs : List Cell} (L : LOk K mg F H σ env fp) (h : atT i env = some cs) :
    ∃ a vs l ob, σ[i]? = some (some (.ref a)) ∧ F a = none ∧ H a = some (.frz ob (.tup vs)) ∧ ob.dict = none ∧ OwnAll K mg F H vs cs l ∧ a ∉ l ∧ fp i = a :: l ∧ ∃ c, env[i]? = some (some c) := by
  unfold atT at h
  split at h
  · rename_i q
    cases h
    obtain ⟨v, hv, ow⟩ := L.slot i _ q
    generalize hl : fp i = l at ow
    cases ow with
    | tt f1 f2 fd f3 f4 => exact ⟨_, _, _, _, hv, f1, f2, fd, f3, f4, rfl, _, q⟩
  · cases h
theorem sj_appTT {i : Nat} {n : Nat} {j} {f : M D} {x : Str} {apos spos npos kpos pos' : Pos} (ha : ES X W true a f)
    (hN : X.N[i]? = some x := by rfl) (hv : Vis X.env.scope x := by first | exact Or.inl rfl | exact Or.inr (Or.inl rfl) | exact Or.inr (Or.inr rfl)) (hd : (x == ("__debug__" : Str)) = false := by decide) (hcd : (x == ("__classdict__" : Str)) = false := by decide)
    (hbase : attributeBase (.Subscript (.Name x npos) (.Constant (.int (n : Int)) j kpos) spos) "append" X.env (eval (.Subscript (.Name x npos) (.Constant (.int (n : Int)) j kpos) spos) X.env) = eval (.Subscript (.Name x npos) (.Constant (.int (n : Int)) j kpos) spos) X.env := by rfl)
    (hfew : ((backTo pos (starEach [a] X.env)).all (fun x => !x.1) && (backToKw pos (keywordEach [] X.env)).all (fun x => x.1.isSome)
      && decide ([a].length + ([] : List Keyword).length + (if ([] : List Keyword).isEmpty then 0 else 1) < 30)) = true := by rfl)
    (hline : (apos.endLine == pos.line) = true := by rfl) (hs : starEach [a] X.env = (false, eval a X.env) :: starEach [] X.env := by rfl) (hplain : (backTo pos (starEach [] X.env)).any (·.1) = false := by rfl)
    (hsw : swapsWith (.Call (.Attribute (.Subscript (.Name x npos) (.Constant (.int (n : Int)) j kpos) spos) "append" apos) [a] [] pos) none pos'.line X.env = pure false := by rfl) :
    SJ X W ro (.Expr (.Call (.Attribute (.Subscript (.Name x npos) (.Constant (.int (n : Int)) j kpos) spos) "append" apos) [a] [] pos) pos') (sAppTT i n f) := by
  obtain ⟨t, h, kk⟩ := ha
  refine ⟨_, ps_expr (pe_bm F.plainAttrs_list F.slot_list_append F.type_list_append mt_append (pe_ix ix_tup (pe_var hN hv hd hcd) pe_int (fun _ _ => rfl)) (pa_cons h pa_nil hs) hbase hfew hline hs hplain) hsw, fun F H σ env fp N L P => ?_⟩
  unfold sAppTT at P
  cases h1 : atT i env with
  | none => simp only [h1, Option.bind_none] at P; exact P.elim
  | some cs =>
    simp only [h1, Option.bind_some] at P
    obtain ⟨a0, vs1, l1, ob, hσ, fa, hH1, hdd, oa, nin, hfp, c1, hc1⟩ := atT_own L h1
    cases h2 : owAt n cs with
    | none => simp only [h2] at P; exact P.elim
    | some ds0 =>
      simp only [h2] at P
      unfold owAt at h2
      cases h3 : ixN cs.length n with
      | none => rw [h3] at h2; cases h2
      | some j =>
        rw [h3] at h2
        simp only [Option.bind_some] at h2
        split at h2
        · rename_i ds1 hj
          cases h2
          obtain ⟨b, xs, e1', e2', e3', e4', e5', e6'⟩ := oa.at hj
          refine ⟨_, hσ, a0, vs1, n, .ref b, rfl, rfl, .inl (.inr ⟨_, hH1⟩), ?_, .inl ⟨rfl, _, .inl (Rd.of e4')⟩, kk F H σ env fp _ L ((wpS.expr0 P).imp fun d e2 F2 H2 fp2 m2 L2' ⟨m2', z⟩ v dv => ?_)⟩
          · unfold atI; rw [oa.len, h3]; exact e1'
          · cases h4 : atT i e2 with
            | none => simp only [h4, Option.bind_none] at z; exact z.elim
            | some cs2 =>
              simp only [h4, Option.bind_some] at z
              obtain ⟨a2, vs2, l2, ob2, hσ2, fa2, hH2, hdd2, oa2, nin2, hfp2, c2, hc2⟩ := atT_own L2' h4
              rw [hσ] at hσ2
              cases hσ2
              have hv2 := m2.h _ _ hH1 (fun _ z => by cases z) (fun z => by cases z)
              rw [hH2] at hv2
              cases hv2
              unfold appAt at z
              rw [← oa2.len, oa.len, h3] at z
              simp only [Option.bind_some] at z
              cases h5 : cs2[j]? with
              | none => simp only [h5] at z; exact z.elim
              | some cj =>
                cases cj with
                | ow ds =>
                  simp only [h5] at z
                  split at z
                  · rename_i hif
                    split at hif
                    · rename_i hz
                      cases hif
                      obtain ⟨b2, xs2, g1, g2, g3, g4, g5, g6⟩ := oa2.at h5
                      rw [e1'] at g1
                      cases g1
                      refine ⟨b, xs2, v, rfl, rfl, g4, by rw [g5.len]; exact hz, ?_⟩
                      have hbi : b ∈ fp2 i := by rw [hfp2]; simp [g2]
                      have hba : a0 ≠ b := fun q => by subst q; exact nin2 g2
                      have own : Own X.K X.mg F2 (upd H2 b (.lst (xs2 ++ [v]))) (.ref a0) (.tt (cs2.set j (.ow (ds ++ [d])))) (a0 :: l2) :=
                        .tt fa2 (by rw [upd_ne hba]; exact hH2) hdd2 (g6 _ _ (g5.append (.cons dv .nil))) nin2
                      exact z σ F2 _ _ (m2'.mutG hbi fun b hb => by
                        rw [hfp2]; exact .inl hb) (L2'.mutG hc2 hσ hbi own fun b hb => by rw [hfp2]; exact .inl hb) (Ro.rfl' σ)
                    · cases hif
                  · exact z.elim
                | _ => simp only [h5] at z; exact z.elim
        · cases h2
end
end DL

set_option Elab.async false
set_option linter.all false
set_option maxRecDepth 100000
set_option maxHeartbeats 4000000
/-! DL, part ga: a dict that gathers lists by keys that are tuples. -/
namespace DL
open PySem PySem.Spec L2
/-! ### keys -/
mutual
theorem nkey_free (w w' : World) : ∀ (d : D) (k : NestedKey), nkey d = some k → k.hash w = k.hash w'
  | .none, _, h => by cases h; rfl
  | .int i, _, h => by cases h; rfl
  | .tuple ds, _, h => by
    rw [nkey] at h
    cases e : nkeys ds with
    | none => rw [e] at h; cases h
    | some ks =>
      rw [e] at h; cases h
      simp only [NestedKey.hash, nkeys_free w w' ds ks e]
  | .bool _, _, h => by cases h
  | .str _, _, h => by cases h
  | .list _, _, h => by cases h
  | .dict _, _, h => by cases h
theorem nkeys_free (w w' : World) : ∀ (ds : List D) (ks : List NestedKey), nkeys ds = some ks → NestedKey.hashes w ks = NestedKey.hashes w' ks
  | [], _, h => by cases h; rfl
  | d :: ds, _, h => by
    rw [nkeys] at h
    cases e1 : nkey d with
    | none => rw [e1] at h; cases h
    | some k =>
      cases e2 : nkeys ds with
      | none => rw [e1, e2] at h; cases h
      | some ks =>
        rw [e1, e2] at h; cases h
        simp only [NestedKey.hashes, nkey_free w w' d k e1, nkeys_free w w' ds ks e2]
end
section
variable {X : Cx} {pins : List (Addr × Obj)} {σ : L2.St} {H : Hp} {s : Shared}
mutual
theorem nested_of (I : Inv X pins σ H s) : ∀ (d : D) (k : NestedKey) (v : V) (u : Value), nkey d = some k → Dq X.K H v d → RelV v u → NestedIs s.heap k u
  | .none, _, _, _, h, q, r => by cases h; cases q; cases r; exact .none
  | .int i, _, _, _, h, q, r => by
    cases h; cases q
    obtain ⟨t, rfl⟩ := r
    exact .int i t
  | .tuple ds, _, _, _, h, q, r => by
    rw [nkey] at h
    cases e : nkeys ds with
    | none => rw [e] at h; cases h
    | some ks =>
      rw [e] at h; cases h
      cases q with
      | tup h1 h2 =>
        cases r
        obtain ⟨its, rv, ⟨o, ho, hc, n, hd⟩, _⟩ := I.tupN h1
        exact .tup ho hc hd (by simpa using nestedAll_of I ds ks _ _ e h2 rv)
  | .bool _, _, _, _, h, _, _ => by cases h
  | .str _, _, _, _, h, _, _ => by cases h
  | .list _, _, _, _, h, _, _ => by cases h
  | .dict _, _, _, _, h, _, _ => by cases h
theorem nestedAll_of (I : Inv X pins σ H s) : ∀ (ds : List D) (ks : List NestedKey) (vs : List V) (us : List Value), nkeys ds = some ks → DqAll X.K H vs ds → Vals vs us → NestedAll s.heap ks us
  | [], _, _, _, h, q, r => by cases h; cases q; cases r; exact .nil
  | d :: ds, _, _, _, h, q, r => by
    rw [nkeys] at h
    cases e1 : nkey d with
    | none => rw [e1] at h; cases h
    | some k =>
      cases e2 : nkeys ds with
      | none => rw [e1, e2] at h; cases h
      | some ks =>
        rw [e1, e2] at h; cases h
        cases q with
        | cons h1 h2 =>
          cases r with
          | cons r1 r2 => exact .cons (nested_of I d k _ _ e1 h1 r1) (nestedAll_of I ds ks _ _ e2 h2 r2)
end
/-- at b: the tuple of the key k -/
def KeyAt (K : PySem.W.Frag) (H : Hp) (k : NestedKey) (b : Addr) : Prop := k.depth ≤ 8 ∧ ∃ d, nkey d = some k ∧ Dq K H (.ref b) d
theorem gdO_stab {a : Addr} {xs : List (NestedKey × Addr × Addr)} {h1 h2 : Heap} (g : GdO a xs h1) (st : ∀ o, h1.get? a = some o → h2.get? a = some o) : GdO a xs h2 := by
  obtain ⟨o, es, ep, e1, e⟩ := g
  exact ⟨o, es, ep, st _ e1, e⟩
abbrev xsV (xs : List (NestedKey × Addr × Addr)) : List (NestedKey × Addr × Value) := xs.map fun x => (x.1, x.2.1, Value.ref x.2.2)
theorem gd_dict {a : Addr} {xs : List (NestedKey × Addr × Addr)} (I : Inv X pins σ H s) (g : GdO a xs s.heap) (nd : (xs.map (·.1)).Nodup) (hk : ∀ y ∈ xs, KeyAt X.K H y.1 y.2.1) : s.heap.DictOfH (nestedKind X.prog X.w) a (xsV xs) := by
  obtain ⟨o, es, ep, e1, e2, e3, e4⟩ := g
  refine ⟨o, es, ep, e1, e2, e3, ?_, fun x hx => ?_, ?_⟩
  · rw [e4 X.w, List.map_map]; rfl
  · obtain ⟨y, hy, rfl⟩ := List.mem_map.mp hx
    obtain ⟨h8, d, hd, dq⟩ := hk y hy
    exact ⟨nested_of I d _ _ _ hd dq rfl, h8⟩
  · rw [List.map_map]; exact nd
theorem dict_gd {a : Addr} {xs : List (NestedKey × Addr × Addr)} {P : Program} {w : World} {h : Heap} (g : h.DictOfH (nestedKind P w) a (xsV xs)) (hf : ∀ y ∈ xs, ∀ w', y.1.hash w = y.1.hash w') : GdO a xs h := by
  obtain ⟨o, es, ep, e1, e2, e3, e4, _, _⟩ := g
  refine ⟨o, es, ep, e1, e2, e3, fun w' => ?_⟩
  rw [e4, List.map_map]
  refine List.map_congr_left fun x hx => ?_
  show (⟨x.1.hash w, .ref x.2.1, .ref x.2.2⟩ : DictEntry) = _
  rw [hf x hx w']
/-- d.setdefault(k, xs) -/
theorem setdef {a b c : Addr} {xs : List (NestedKey × Addr × Addr)} {k : NestedKey} {E : Value → Shared → Prop} {Q : VK} (I : Inv X pins σ H s) (ha : H a = some (.ext (GdO a xs))) (hs : (a == sysModules) = false) (nd : (xs.map (·.1)).Nodup) (hk : ∀ y ∈ xs, KeyAt X.K H y.1 y.2.1)
    (kb : KeyAt X.K H k b) (hz : xs.length ≤ sizeLine) (hu : X.A.units + 9 < cLine) (q1 : ∀ b' c', (k, b', c') ∈ xs → Q (.ref c') H) (q2 : (∀ y ∈ xs, y.1 ≠ k) → Q (.ref c) (upd H a (.ext (GdO a (xs ++ [(k, b, c)]))))) :
    wpAny (model X.prog X.w) X.A (call (.builtin "dict.setdefault") [.ref a, .ref b, .ref c]) (L2.EP X pins σ Q) E s := by
  obtain ⟨g, _, _⟩ := I.hok a _ ha
  have hd := gd_dict I g nd hk
  obtain ⟨h8, d, hd1, dq⟩ := kb
  have hkey : (nestedKind X.prog X.w).is s.heap k b := ⟨nested_of I d k _ _ hd1 dq rfl, h8⟩
  refine call_setdefault_heap (knd := nestedKind X.prog X.w) (show X.A.units + 1 + 8 < cLine by omega) hkey hs hd (fun p hp => ?_) (fun hn h' hd' sb => ?_) (by rw [List.length_map]; exact hz)
  · unfold atKey at hp
    rw [Option.map_eq_some_iff] at hp
    obtain ⟨x, hx, rfl⟩ := hp
    have h1 := List.mem_of_find?_eq_some hx
    have h2 : x.1 = k := by simpa using List.find?_some hx
    obtain ⟨y, hy, rfl⟩ := List.mem_map.mp h1
    obtain ⟨k', b', c'⟩ := y
    have h2 : k' = k := h2
    subst h2
    exact ⟨.ref c', H, I.kept (h' := s.heap) (fun _ _ e => e), rfl, q1 b' c' hy⟩
  · rw [storedH_new hn] at hd'
    have no : ∀ y ∈ xs, y.1 ≠ k := fun y hy e => by
      unfold atKey at hn
      rw [Option.map_eq_none_iff, List.find?_eq_none] at hn
      exact hn (y.1, y.2.1, .ref y.2.2) (List.mem_map.mpr ⟨y, hy, rfl⟩) (by simpa using e)
    have hd2 : h'.DictOfH (nestedKind X.prog X.w) a (xsV (xs ++ [(k, b, c)])) := by
      rw [show xsV (xs ++ [(k, b, c)]) = xsV xs ++ [(k, b, .ref c)] by simp [xsV]]
      exact hd'
    have gg : GdO a (xs ++ [(k, b, c)]) h' := dict_gd hd2 fun y hy w' => by
      rcases List.mem_append.mp hy with z | z
      · obtain ⟨_, d', hd'', _⟩ := hk y z
        exact nkey_free _ _ d' _ hd''
      · simp at z; subst z
        exact nkey_free _ _ d _ hd1
    obtain ⟨o, es, ep, e1, e2⟩ := id gg
    exact ⟨.ref c, _, I.write (h' := h') (o := .ext (GdO a (xs ++ [(k, b, c)]))) (by rw [ha]; trivial) (.inl rfl) (fun b u hb e => (sb.2 b hb).trans e) ⟨o, e1⟩ ⟨gg, ⟨o, e1⟩, fun _ _ g st => gdO_stab g st⟩, rfl, q2 no⟩
end
end DL

set_option Elab.async false
set_option linter.all false
set_option maxRecDepth 100000
set_option maxHeartbeats 4000000
/-! DL, part gb: the gathering dict as a cell. -/
namespace DL
open PySem PySem.Spec L2
def addG (k : NestedKey) (kd v : D) : List (D × List D) → List (D × List D)
  | [] => [(kd, [v])]
  | (d, vs) :: r => if nkey d = some k then (d, vs ++ [v]) :: r else (d, vs) :: addG k kd v r
def gdOf (i : Nat) (e : LE) : Option (List (D × List D)) := match e[i]? with
  | some (some (.gd gs)) => some gs
  | _ => none
def fzOf (i : Nat) (e : LE) : Option D := match e[i]? with
  | some (some (.fz d)) => some d
  | _ => none
theorem gdOf_is {i : Nat} {e : LE} {gs : List (D × List D)} (h : gdOf i e = some gs) : e[i]? = some (some (.gd gs)) := by
  unfold gdOf at h
  split at h
  · rename_i q; cases h; exact q
  · cases h
theorem fzOf_is {i : Nat} {e : LE} {d : D} (h : fzOf i e = some d) : e[i]? = some (some (.fz d)) := by
  unfold fzOf at h
  split at h
  · rename_i q; cases h; exact q
  · cases h
/-- x.setdefault(k, []).append(y) -/
def grpOk (kd : D) (gs : List (D × List D)) : Bool := (match nkey kd with
  | some k => decide (k.depth ≤ 8)
  | none => false) && (decide (gs.length < 16777216) && (gs.all fun g => decide (g.2.length < 16777216)) && (match kd with
  | .tuple _ => true
  | _ => false))
def grpTo (kd v : D) (gs : List (D × List D)) : Option (List (D × List D)) := if grpOk kd gs = true then (nkey kd).map fun k => addG k kd v gs else none
def sGroup (i j : Nat) (fk : M D) : ST := fun e => match gdOf i e with
  | some _ => sE fk (fun kd e1 => match gdOf i e1, fzOf j e1 with
    | some gs, some v => (match grpTo kd v gs with
      | some gs' => .nx (e1.set i (some (.gd gs')))
      | none => .no)
    | _, _ => .no) e
  | none => .no
theorem grpTo_is {kd v : D} {gs gs' : List (D × List D)} (h : grpTo kd v gs = some gs') : ∃ k ds, nkey kd = some k ∧ k.depth ≤ 8 ∧ kd = .tuple ds ∧ gs.length < 16777216 ∧ (∀ g ∈ gs, g.2.length < 16777216) ∧ gs' = addG k kd v gs := by
  unfold grpTo at h
  split at h
  · rename_i ok
    unfold grpOk at ok
    simp only [Bool.and_eq_true, decide_eq_true_eq, List.all_eq_true] at ok
    obtain ⟨o1, ⟨o2, o3⟩, o4⟩ := ok
    cases e : nkey kd with
    | none => rw [e] at h; cases h
    | some k =>
      rw [e] at h o1
      cases h
      cases kd with
      | tuple ds => exact ⟨k, ds, rfl, of_decide_eq_true o1, rfl, o2, o3, rfl⟩
      | _ => cases o4
  · cases h
section
variable {K : PySem.W.Frag} {mg : Str → Option Value} {F F' H H' : Hp}
theorem GdAll.len : ∀ {xs : List (NestedKey × Addr × Addr)} {gs : List (D × List D)} {l : List Addr}, GdAll K F H xs gs l → xs.length = gs.length
  | _, _, _, .nil => rfl
  | _, _, _, .cons _ _ _ _ _ _ _ t => congrArg (· + 1) t.len
theorem GdAll.keys : ∀ {xs : List (NestedKey × Addr × Addr)} {gs : List (D × List D)} {l : List Addr}, GdAll K F H xs gs l → ∀ y ∈ xs, KeyAt K F y.1 y.2.1
  | _, _, _, .nil, y, m => by cases m
  | _, _, _, .cons h1 h0 h2 h3 h4 h5 h6 t, y, m => by
    rcases List.mem_cons.mp m with r | r
    · subst r; exact ⟨h0, _, h1, h2⟩
    · exact t.keys y r
theorem KeyAt.mono {k : NestedKey} {b : Addr} (e : Same F F') (h : KeyAt K F k b) : KeyAt K F' k b := let ⟨h8, d, h1, h2⟩ := h; ⟨h8, d, h1, Dq_mono e _ _ h2⟩
/-- an entry that is there -/
theorem GdAll.at {k : NestedKey} {b c : Addr} {kd v : D} {x : V} (dx : Dq K F x v) : ∀ {xs : List (NestedKey × Addr × Addr)} {gs : List (D × List D)} {l : List Addr}, GdAll K F H xs gs l → (xs.map (·.1)).Nodup → (k, b, c) ∈ xs → (∀ g ∈ gs, g.2.length < 16777216) →
    ∃ vs, c ∈ l ∧ F c = none ∧ H c = some (.lst vs) ∧ vs.length < 16777216 ∧ GdAll K F (upd H c (.lst (vs ++ [x]))) xs (addG k kd v gs) l
  | _, _, _, .nil, _, m, _ => by cases m
  | _, _, _, .cons (k := k1) (b := b1) (c := c1) (d := d1) (vs := vs1) (ds := ds1) (xs := xs1) (gs := gs1) (l := l1) h1 h0 h2 h3 h4 h5 h6 t, nd, m, hl => by
    rw [List.map_cons, List.nodup_cons] at nd
    by_cases e : k1 = k
    · subst e
      have hc : c = c1 ∧ b = b1 := by
        rcases List.mem_cons.mp m with r | r
        · cases r; exact ⟨rfl, rfl⟩
        · exact absurd (List.mem_map.mpr ⟨_, r, rfl⟩) nd.1
      obtain ⟨rfl, rfl⟩ := hc
      refine ⟨vs1, by simp, h3, h4, by rw [h5.len]; exact hl _ (List.mem_cons_self ..), ?_⟩
      unfold addG
      rw [if_pos h1]
      refine .cons h1 h0 h2 h3 upd_same (h5.append (.cons dx .nil)) h6 (t.frame (Same.refl _) (fun a ha o q _ => ?_) (fun a ha => (t.free a ha).1))
      rw [upd_ne (fun z => by subst z; exact h6 ha)]; exact q
    · have m' : (k, b, c) ∈ xs1 := by
        rcases List.mem_cons.mp m with r | r
        · cases r; exact absurd rfl e
        · exact r
      obtain ⟨vs, c1', c2, c3, c4, c5⟩ := GdAll.at (kd := kd) dx t nd.2 m' fun g hg => hl g (List.mem_cons_of_mem _ hg)
      refine ⟨vs, by simp [c1'], c2, c3, c4, ?_⟩
      unfold addG
      rw [if_neg (fun z => e (by rw [h1] at z; cases z; rfl))]
      refine .cons h1 h0 h2 h3 ?_ h5 h6 c5
      rw [upd_ne (fun z => by subst z; exact h6 c1')]; exact h4
/-- a new entry -/
theorem GdAll.new {k : NestedKey} {b c : Addr} {kd v : D} {x : V} (dx : Dq K F x v) (hk : nkey kd = some k) (h8 : k.depth ≤ 8) (hb : Dq K F (.ref b) kd) (fc : F c = none) (hc : H c = some (.lst [x])) : ∀ {xs : List (NestedKey × Addr × Addr)} {gs : List (D × List D)} {l : List Addr}, GdAll K F H xs gs l → (∀ y ∈ xs, y.1 ≠ k) → c ∉ l →
    GdAll K F H (xs ++ [(k, b, c)]) (addG k kd v gs) (l ++ [c])
  | _, _, _, .nil, _, _ => .cons hk h8 hb fc hc (.cons dx .nil) (by simp) .nil
  | _, _, _, .cons h1 h0 h2 h3 h4 h5 h6 t, no, hn => by
    unfold addG
    rw [if_neg (fun z => by rw [h1] at z; cases z; exact no _ (List.mem_cons_self ..) rfl)]
    simp only [List.mem_cons, not_or] at hn
    refine .cons h1 h0 h2 h3 h4 h5 (fun z => ?_) (GdAll.new dx hk h8 hb fc hc t (fun y hy => no y (List.mem_cons_of_mem _ hy)) hn.2)
    rcases List.mem_append.mp z with z | z
    · exact h6 z
    · simp at z; exact hn.1 z.symm
end
section
variable {X : Cx} {W : WX} {ro : List Nat} {p : Bool} {k : Expr} {pos pos' : Pos}
theorem ec_gnew : EC X W p (.Dict [] [] pos) (ret (.gd [])) := by
  refine ⟨fun _ H Q => ∀ a, H a = none → (a == sysModules) = false → Q (.ref a) (upd H a (.ext (GdO a []))), ⟨fun pins s σ H Q I h => ?_⟩, fun F H σ env fp Q L P a ha hs => ?_⟩
  · have e : (s.heap.push { cls := .type "dict", data := .dict #[] }).get? s.heap.objs.size = some { cls := .type "dict", data := .dict #[] } := Heap.get?_push_size _ rfl
    refine wpAny_Dict_empty ⟨.ref s.heap.objs.size, _, I.laid (a := s.heap.objs.size) (o := .ext (GdO s.heap.objs.size [])) (t' := s.toks) (fun _ _ q => Heap.get?_push_of_some _ q) (Nat.le_refl _) ⟨⟨_, #[], 0, e, ⟨rfl, rfl, rfl⟩, rfl, fun _ => rfl⟩, ⟨_, e⟩, fun _ _ g st => gdO_stab g st⟩, rfl,
      h _ (I.hok.fresh (Nat.le_refl _)) (beq_eq_false_iff_ne.mpr (Ne.symm (Nat.ne_of_lt I.big)))⟩
  · obtain ⟨L', m, fn, nu⟩ := L.newO (o := .ext (GdO a [])) ha
    exact P _ _ _ m.weak L' _ ⟨[a], .gd fn upd_same hs .nil .nil (by simp), (fun b hb => by simp at hb; subst hb; exact nu), (fun b hb => by simp at hb; subst hb; exact .inr ha)⟩
theorem upd_comm {H : Hp} {a b : Addr} {x y : HO} (h : a ≠ b) : upd (upd H a x) b y = upd (upd H b y) a x := by
  funext c
  by_cases e1 : c = b
  · subst e1; rw [upd_same, upd_ne (fun z => h z.symm), upd_same]
  · by_cases e2 : c = a
    · subst e2; rw [upd_ne e1, upd_same, upd_same]
    · rw [upd_ne e1, upd_ne e2, upd_ne e2, upd_ne e1]
def tSD (X : Cx) (W : WX) (i : Nat) (fk : M D) : TE := fun σ H Q => ∃ F env fp gs0, LOk X.K X.mg F H σ env fp ∧ gdOf i env = some gs0 ∧ wpE X W true F H σ fp (fk env) (fun kd e1 F1 H1 fp1 => ∃ gs kn ds, gdOf i e1 = some gs ∧ nkey kd = some kn ∧ kn.depth ≤ 8 ∧ kd = .tuple ds ∧ gs.length < 16777216 ∧
  ∀ b, Dq X.K F1 (.ref b) kd → ∀ a xs l, σ[i]? = some (some (.ref a)) → fp1 i = a :: l → F1 a = none → H1 a = some (.ext (GdO a xs)) → (a == sysModules) = false → (xs.map (·.1)).Nodup → GdAll X.K F1 H1 xs gs l → a ∉ l → ∀ c, H1 c = none →
    (∀ b' c', (kn, b', c') ∈ xs → Q (.ref c') (upd H1 c (.lst []))) ∧ ((∀ y ∈ xs, y.1 ≠ kn) → Q (.ref c) (upd (upd H1 c (.lst [])) a (.ext (GdO a (xs ++ [(kn, b, c)]))))))
theorem gd_own {K : PySem.W.Frag} {mg : Str → Option Value} {F H : Hp} {σ : L2.St} {env : LE} {fp : FP} {i : Nat} {gs : List (D × List D)} (L : LOk K mg F H σ env fp) (h : gdOf i env = some gs) :
    ∃ a xs l, σ[i]? = some (some (.ref a)) ∧ fp i = a :: l ∧ F a = none ∧ H a = some (.ext (GdO a xs)) ∧ (a == sysModules) = false ∧ (xs.map (·.1)).Nodup ∧ GdAll K F H xs gs l ∧ a ∉ l := by
  obtain ⟨v, hv, ow⟩ := L.slot i _ (gdOf_is h)
  generalize hl : fp i = l at ow
  cases ow with
  | gd h1 h2 h3 h4 h5 h6 => exact ⟨_, _, _, hv, rfl, h1, h2, h3, h4, h5, h6⟩
theorem pe_setdef {i : Nat} {fk : M D} {x : Str} {a1pos spos npos lpos : Pos} (hk : ES X W true k fk) (hu : X.A.units + 9 < cLine)
    (hN : X.N[i]? = some x := by rfl) (hv : Vis X.env.scope x := by first | exact Or.inl rfl | exact Or.inr (Or.inl rfl) | exact Or.inr (Or.inr rfl)) (hd : (x == ("__debug__" : Str)) = false := by decide) (hcd : (x == ("__classdict__" : Str)) = false := by decide)
    (hb1 : attributeBase (.Name x npos) "setdefault" X.env (eval (.Name x npos) X.env) = eval (.Name x npos) X.env := by rfl)
    (hf1 : ((backTo spos (starEach [k, .List [] lpos] X.env)).all (fun x => !x.1) && (backToKw spos (keywordEach [] X.env)).all (fun x => x.1.isSome)
      && decide ([k, .List [] lpos].length + ([] : List Keyword).length + (if ([] : List Keyword).isEmpty then 0 else 1) < 30)) = true := by rfl)
    (hl1 : (a1pos.endLine == spos.line) = true := by rfl) (hs1 : starEach [k, .List [] lpos] X.env = (false, eval k X.env) :: starEach [.List [] lpos] X.env := by rfl) (hp1 : (backTo spos (starEach [.List [] lpos] X.env)).any (·.1) = false := by rfl)
    (hs2 : starEach [.List [] lpos] X.env = (false, eval (.List [] lpos) X.env) :: starEach [] X.env := by rfl) :
    PE X (.Call (.Attribute (.Name x npos) "setdefault" a1pos) [k, .List [] lpos] [] spos) (tSD X W i fk) := by
  obtain ⟨tk, hk, kk⟩ := hk
  refine ⟨fun pins s σ H Q I h => ?_⟩
  obtain ⟨F0, env, fp, gs0, L, h0, P⟩ := h
  obtain ⟨a, xs0, l0, hσ, _, _, hH, hsys, _⟩ := gd_own L h0
  refine wpAny_Call_method_late hb1 hf1 hl1 rfl (thn ((pe_var hN hv hd hcd).run pins s σ H (fun v H' => v = .ref a ∧ H' = H) I ⟨_, hσ, rfl, rfl⟩) fun u s1 ⟨v, H1, I1, r1, ev, eH⟩ => ?_)
  subst ev
  subst eH
  obtain rfl : u = Value.ref a := r1
  obtain ⟨⟨o, es, ep, g1, g2, g3, _⟩, _, _⟩ := I1.hok a _ hH
  refine ⟨"dict", "dict.setdefault", F.plainAttrs_dict, F.slot_dict_setdefault, F.type_dict_setdefault, ⟨o, g1, g2.1⟩, fun b eb => ?_, ?_⟩
  · cases eb
    exact ⟨o, g1, g2.2.1⟩
  have pa : PA X [k, .List [] lpos] _ := pa_cons hk (pa_cons (pe_lst pa_nil) pa_nil hs2) hs1
  have hA := pa.run spos pins s1 σ H1 (fun vs H' => ∃ b c xs1 kn, vs = [.ref b, .ref c] ∧ H' a = some (.ext (GdO a xs1)) ∧ (xs1.map (·.1)).Nodup ∧ (∀ y ∈ xs1, KeyAt X.K H' y.1 y.2.1) ∧ KeyAt X.K H' kn b ∧ xs1.length ≤ sizeLine ∧
    (∀ b' c', (kn, b', c') ∈ xs1 → Q (.ref c') H') ∧ ((∀ y ∈ xs1, y.1 ≠ kn) → Q (.ref c) (upd H' a (.ext (GdO a (xs1 ++ [(kn, b, c)])))))) I1 (kk F0 H1 σ env fp _ L (P.imp fun kd e1 F1 H2 fp1 m1 L1 z v dv => ?_))
  · rw [hs1] at hA ⊢
    refine Calls.callWith_builtin (by show (false || (backTo spos (starEach [.List [] lpos] X.env)).any (·.1)) = false; rw [hp1] <;> rfl) (Calls.evalArgs_plain ?_)
    refine thn hA fun us s2 ⟨vs, H2, I2, r2, b, c, xs1, kn, ev, h1, h2, h3, h4, h5, h6, h7⟩ => ?_
    subst ev
    cases r2 with
    | cons ra rb =>
      cases rb with
      | cons rb rc =>
        cases rc
        cases ra
        cases rb
        exact setdef I2 h1 hsys h2 h3 h4 h5 hu h6 h7
  · obtain ⟨gs, kn, ds, z1, z2, z3, z4, z5, z⟩ := z
    subst z4
    cases dv with
    | tup d1 d2 =>
      obtain ⟨a', xs1, l, y1, y2, y3, y4, y5, y6, y7, y8⟩ := gd_own L1 z1
      rw [hσ] at y1
      cases y1
      have n0 : ([] : List V).length ≤ 16777216 := Nat.zero_le _
      refine ⟨n0, fun c hc => ?_⟩
      have zz := z _ (.tup d1 d2) a xs1 l hσ y2 y3 y4 y5 y6 y7 y8 c hc
      have hac : a ≠ c := fun e => by subst e; rw [y4] at hc; cases hc
      have sm : Same F1 (upd H2 c (.lst [])) := fun b o e => by
        have e' := L1.same b o e
        rw [upd_ne (fun q => by subst q; rw [hc] at e'; cases e')]; exact e'
      refine ⟨_, c, xs1, kn, rfl, by rw [upd_ne hac]; exact y4, y6, fun y hy => (y7.keys y hy).mono sm, ⟨z3, _, z2, Dq_mono sm _ _ (.tup d1 d2)⟩, by rw [y7.len, sizeLine_eq]; omega, zz.1, zz.2⟩
theorem sj_group (i j : Nat) {fk : M D} {x y : Str} {a1pos apos spos npos ypos lpos : Pos} (hk : ES X W true k fk) (hu : X.A.units + 9 < cLine)
    (hN : X.N[i]? = some x := by rfl) (hv : Vis X.env.scope x := by first | exact Or.inl rfl | exact Or.inr (Or.inl rfl) | exact Or.inr (Or.inr rfl)) (hd : (x == ("__debug__" : Str)) = false := by decide) (hcd : (x == ("__classdict__" : Str)) = false := by decide)
    (hNy : X.N[j]? = some y := by rfl) (hvy : Vis X.env.scope y := by first | exact Or.inl rfl | exact Or.inr (Or.inl rfl) | exact Or.inr (Or.inr rfl)) (hdy : (y == ("__debug__" : Str)) = false := by decide) (hcdy : (y == ("__classdict__" : Str)) = false := by decide)
    (hb1 : attributeBase (.Name x npos) "setdefault" X.env (eval (.Name x npos) X.env) = eval (.Name x npos) X.env := by rfl)
    (hf1 : ((backTo spos (starEach [k, .List [] lpos] X.env)).all (fun x => !x.1) && (backToKw spos (keywordEach [] X.env)).all (fun x => x.1.isSome)
      && decide ([k, .List [] lpos].length + ([] : List Keyword).length + (if ([] : List Keyword).isEmpty then 0 else 1) < 30)) = true := by rfl)
    (hl1 : (a1pos.endLine == spos.line) = true := by rfl) (hs1 : starEach [k, .List [] lpos] X.env = (false, eval k X.env) :: starEach [.List [] lpos] X.env := by rfl) (hp1 : (backTo spos (starEach [.List [] lpos] X.env)).any (·.1) = false := by rfl)
    (hs2 : starEach [.List [] lpos] X.env = (false, eval (.List [] lpos) X.env) :: starEach [] X.env := by rfl)
    (hbase : attributeBase (.Call (.Attribute (.Name x npos) "setdefault" a1pos) [k, .List [] lpos] [] spos) "append" X.env (eval (.Call (.Attribute (.Name x npos) "setdefault" a1pos) [k, .List [] lpos] [] spos) X.env) = eval (.Call (.Attribute (.Name x npos) "setdefault" a1pos) [k, .List [] lpos] [] spos) X.env := by rfl)
    (hfew : ((backTo pos (starEach [.Name y ypos] X.env)).all (fun x => !x.1) && (backToKw pos (keywordEach [] X.env)).all (fun x => x.1.isSome)
      && decide ([Expr.Name y ypos].length + ([] : List Keyword).length + (if ([] : List Keyword).isEmpty then 0 else 1) < 30)) = true := by rfl)
    (hline : (apos.endLine == pos.line) = true := by rfl) (hs : starEach [.Name y ypos] X.env = (false, eval (.Name y ypos) X.env) :: starEach [] X.env := by rfl) (hplain : (backTo pos (starEach [] X.env)).any (·.1) = false := by rfl)
    (hsw : swapsWith (.Call (.Attribute (.Call (.Attribute (.Name x npos) "setdefault" a1pos) [k, .List [] lpos] [] spos) "append" apos) [.Name y ypos] [] pos) none pos'.line X.env = pure false := by rfl) :
    SJ X W ro (.Expr (.Call (.Attribute (.Call (.Attribute (.Name x npos) "setdefault" a1pos) [k, .List [] lpos] [] spos) "append" apos) [.Name y ypos] [] pos) pos') (sGroup i j fk) := by
  have sd := pe_setdef (i := i) (W := W) (lpos := lpos) hk hu hN hv hd hcd hb1 hf1 hl1 hs1 hp1 hs2
  refine ⟨_, ps_expr (pe_bm F.plainAttrs_list F.slot_list_append F.type_list_append mt_append sd (pa_cons (pe_var hNy hvy hdy hcdy) pa_nil hs) hbase hfew hline hs hplain) hsw, fun F H σ env fp N L P => ?_⟩
  unfold sGroup at P
  cases h0 : gdOf i env with
  | none => rw [h0] at P; exact P.elim
  | some gs0 =>
    simp only [h0] at P
    refine ⟨F, env, fp, gs0, L, h0, (wpS.expr0 P).imp fun kd e1 F1 H1 fp1 m1 L1 ⟨m, z⟩ => ?_⟩
    cases h1 : gdOf i e1 with
    | none => simp only [h1] at z; exact z.elim
    | some gs =>
      cases h2 : fzOf j e1 with
      | none => simp only [h1, h2] at z; exact z.elim
      | some vd =>
        simp only [h1, h2] at z
        cases h3 : grpTo kd vd gs with
        | none => simp only [h3] at z; exact z.elim
        | some gs' =>
          simp only [h3] at z
          obtain ⟨kn, ds, g1, g2, g3, g4, g5, rfl⟩ := grpTo_is h3
          refine ⟨gs, kn, ds, rfl, g1, g2, g3, g4, fun b hb a xs l y1 y2 y3 y4 y5 y6 y7 y8 c hc => ?_⟩
          have hci := gdOf_is h1
          obtain ⟨w, hw, ow⟩ := L1.slot j _ (fzOf_is h2)
          have dw : Dq X.K F1 w vd := by
            generalize fp1 j = lj at ow
            cases ow with
            | fz h => exact h
          have fc : F1 c = none := by
            cases q : F1 c with
            | none => rfl
            | some o => have := L1.same _ _ q; rw [hc] at this; cases this
          have nU : ¬ U fp1 c := fun u => by
            obtain ⟨_, o, q, _⟩ := L1.free u
            rw [hc] at q; cases q
          have hac : a ≠ c := fun e => by subst e; rw [y4] at hc; cases hc
          have hcl : c ∉ l := fun q => nU ⟨i, by rw [y2]; simp [q]⟩
          have hai : a ∈ fp1 i := by rw [y2]; simp
          have Lc := L1.updNew (o := .lst []) fc nU (.inl hc)
          have mc := m1.updNew (o := .lst []) (show H c = none from m1.d c hc)
          have gA : ∀ x', GdAll X.K F1 (upd H1 c x') xs gs l := fun x' => y7.frame (Same.refl _) (fun b hb o e _ => by rw [upd_ne (fun q => by subst q; exact hcl hb)]; exact e) (fun b hb => (y7.free b hb).1)
          refine ⟨fun b' c' hm => ⟨.inl ⟨rfl, ?_⟩, ?_⟩, fun no => ⟨.inl ⟨rfl, ?_⟩, ?_⟩⟩
          · obtain ⟨vs, q1, q2, q3, q4, q5⟩ := GdAll.at (kd := kd) dw (gA (.lst [])) y6 hm g5
            exact ⟨_, .inl (Rd.of q3)⟩
          · obtain ⟨vs, q1, q2, q3, q4, q5⟩ := GdAll.at (kd := kd) dw (gA (.lst [])) y6 hm g5
            refine ⟨w, hw, _, vs, w, rfl, rfl, q3, q4, ?_⟩
            have hc'i : c' ∈ fp1 i := by rw [y2]; simp [q1]
            have hac' : a ≠ c' := fun e => by subst e; exact y8 q1
            have own : Own X.K X.mg F1 (upd (upd H1 c (.lst [])) c' (.lst (vs ++ [w]))) (.ref a) (.gd (addG kn kd vd gs)) (a :: l) :=
              .gd y3 (by rw [upd_ne hac', upd_ne hac]; exact y4) y5 y6 q5 y8
            exact z σ F1 _ _ (mc.mutG hc'i fun b hb => .inl (by rw [y2]; exact hb)) (Lc.mutG hci y1 hc'i own fun b hb => .inl (by rw [y2]; exact hb)) (Ro.rfl' σ)
          · exact ⟨[], .inl (Rd.of (by rw [upd_ne (Ne.symm hac), upd_same]))⟩
          · refine ⟨w, hw, c, [], w, rfl, rfl, by rw [upd_ne (Ne.symm hac), upd_same], by decide, ?_⟩
            rw [upd_comm hac]
            have Lc2 := Lc.updNew (o := .lst ([] ++ [w])) fc nU (.inr ⟨_, upd_same, .lst⟩)
            have mc2 := mc.updNew (o := .lst ([] ++ [w])) (show H c = none from m1.d c hc)
            have gN : GdAll X.K F1 (upd (upd (upd H1 c (.lst [])) c (.lst ([] ++ [w]))) a (.ext (GdO a (xs ++ [(kn, b, c)])))) (xs ++ [(kn, b, c)]) (addG kn kd vd gs) (l ++ [c]) := by
              refine GdAll.new (by exact dw) g1 g2 hb fc (by rw [upd_ne (Ne.symm hac), upd_same]; rfl) (y7.frame (Same.refl _) (fun b' hb' o e _ => ?_) (fun b' hb' => (y7.free b' hb').1)) no hcl
              rw [upd_ne (fun q => by subst q; exact y8 hb'), upd_ne (fun q => by subst q; exact hcl hb'), upd_ne (fun q => by subst q; exact hcl hb')]; exact e
            have own : Own X.K X.mg F1 (upd (upd (upd H1 c (.lst [])) c (.lst ([] ++ [w]))) a (.ext (GdO a (xs ++ [(kn, b, c)])))) (.ref a) (.gd (addG kn kd vd gs)) (a :: (l ++ [c])) := by
              refine .gd y3 upd_same y5 ?_ gN (fun q => ?_)
              · rw [List.map_append, List.nodup_append]
                refine ⟨y6, by simp, fun p hp q hq e => ?_⟩
                simp at hq
                obtain ⟨y, hy, rfl⟩ := List.mem_map.mp hp
                exact no y hy (e.trans hq)
              · rcases List.mem_append.mp q with q | q
                · exact y8 q
                · simp at q; exact hac q
            have hl : ∀ b' ∈ a :: (l ++ [c]), b' ∈ fp1 i ∨ b' = c := fun b' hb' => by
              rw [y2]
              simp at hb' ⊢
              rcases hb' with q | q | q
              · exact .inl (.inl q)
              · exact .inl (.inr q)
              · exact .inr q
            exact z σ F1 _ _ (mc2.mutG hai fun b' hb' => (hl b' hb').imp id fun q => by subst q; exact .inr (m1.d _ hc)) (Lc2.mutG hci y1 hai own fun b' hb' => (hl b' hb').imp id fun q => by subst q; exact nU) (Ro.rfl' σ)
end
end DL

set_option Elab.async false
set_option linter.all false
set_option maxRecDepth 100000
set_option maxHeartbeats 4000000
/-! DL, part u: a lambda of one parameter as a sort's key. -/
namespace DL
open PySem PySem.Spec L2 LamX
/-- the lambda's names: its parameter, what it captures, globals -/
structure LamS1 (sc scope : Scope) (row : Str) : Prop where
  kind : scope.kind = .function
  co : scope.isCoroutine = false
  gen : scope.isGenerator = false
  par : scope.names.lookup row = some .local
  own : ∀ y ∈ scope.names, y.2 ≠ .cell ∧ (y.2 = .local → y.1 = row)
  free : ∀ y ∈ scope.names, y.2 = .free → sc.names.lookup y.1 = some .cell ∨ sc.names.lookup y.1 = some .free
def lamSB1 (sc scope : Scope) (row : Str) : Bool :=
  decide (scope.kind = .function) && !scope.isCoroutine && !scope.isGenerator && decide (scope.names.lookup row = some .local) && scope.names.all fun y => !decide (y.2 = .cell) && (!decide (y.2 = .local) || decide (y.1 = row)) && (!decide (y.2 = .free) || decide (sc.names.lookup y.1 = some .cell) || decide (sc.names.lookup y.1 = some .free))
theorem lamS1_by {sc scope : Scope} {row : Str} (h : lamSB1 sc scope row = true) : LamS1 sc scope row := by
  unfold lamSB1 at h
  simp only [Bool.and_eq_true, Bool.or_eq_true, Bool.not_eq_true', decide_eq_true_eq, decide_eq_false_iff_not, List.all_eq_true] at h
  obtain ⟨⟨⟨⟨h1, h2⟩, h3⟩, h4⟩, h5⟩ := h
  refine ⟨h1, h2, h3, h4, fun y hy => ⟨(h5 y hy).1.1, fun e => ?_⟩, fun y hy e => ?_⟩
  · rcases (h5 y hy).1.2 with z | z
    · exact absurd e z
    · exact z
  · rcases (h5 y hy).2 with (z | z) | z
    · exact absurd e z
    · exact .inl z
    · exact .inr z
theorem LamS1.has {X : Cx} {scope : Scope} {row : Str} (L : LamS1 X.env.scope scope row) (ok : X.Ok) : ∀ y ∈ scope.names, y.2 = .free → ∃ c, X.env.cells.lookup y.1 = some c := fun y hy e => by
  rcases L.free y hy e with k | k
  · exact ok.has _ (.inl k)
  · exact ok.has _ (.inr k)
section
variable {X : Cx} {pins : List (Addr × Obj)} {σ : L2.St} {H HZ : Hp} {s s1 : Shared}
/-- the lambda's body begins -/
theorem lam_start1 {A : Around} {outer : List Env} {E : XK} {scope : Scope} {f c' : Addr} {h₁ : Heap} {tk : Nat} {row : Str} {ir : Nat} {v : V} {u : Value} (I : Inv X pins σ H s) (hN : X.N.Nodup) (hir : X.N[ir]? = some row) (L : LamS1 X.env.scope scope row)
    (e0 : Env0 X.prog X.w X.K X.mg X.base A outer s H) (hd : A.handled = none) (r : RelV v u)
    (hns : h₁.Ns s.heap.objs.size fun y => [(row, u)].reverse.lookup y) (kp : ∀ b o, s.heap.get? b = some o → h₁.get? b = some o) :
    Inv (lamCx X A outer s H E scope f c') [] (σ.set ir (some v)) H { s with heap := h₁, toks := tk } := by
  have hfree := L.has I.ok
  have cm : ∀ {y c}, (cloFrom X.env.cells scope.names []).lookup y = some c → X.env.cells.lookup y = some c := fun {y c} e => by
    rcases cloFrom_mem (PySem.mem_of_lookup e) with hm | ⟨h1, h2⟩
    · cases hm
    · obtain ⟨c1, hc⟩ := hfree _ h1 rfl
      have hc : X.env.cells.lookup y = some c1 := hc
      have e2 : c = c1 := by
        rw [h2, hc] <;> rfl
      rw [e2]; exact hc
  have look : ∀ {y}, scope.names.lookup y = some .free → ∃ c, (cloFrom X.env.cells scope.names []).lookup y = some c := fun {y} hl =>
    mem_lookup (cloFrom_has (cells := X.env.cells) (acc := []) (show (y, NameKind.free) ∈ scope.names from PySem.mem_of_lookup hl))
  have cellK : ∀ {c : Addr} {v : Option Value}, s.heap.IsCell c v → h₁.IsCell c v := fun {c v} ⟨o, ho, hd⟩ => ⟨o, kp _ _ ho, hd⟩
  have noA : ∀ b : Addr, b ∉ (lamCx X A outer s H E scope f c').ex := fun b z => absurd (show b ∈ ([] : List Addr) from z) (by simp)
  refine ⟨⟨e0.mod, L.kind, rfl, rfl, Nat.le_refl _, fun y z c e1 e2 => I.ok.inj y z c (cm e1) (cm e2), fun y hy => ?_, fun y c z _ => ?_, fun _ => hd, Around.frames_deeper e0.frames, .inr ⟨rfl, rfl⟩, fun b z => absurd z (noA b), e0.bs, e0.bsz, fun b _ _ => noA b,
      fun b z => absurd z (noA b), e0.funs, e0.frf⟩,
    rfl, e0.bare, Un.kept kp, ⟨_, hns, fun i y v' e1 e2 e3 => ?_⟩, fun y c e => ?_, e0.hok.fresh (Nat.le_refl _), fun y c e => I.freeC y c (cm e), fun q hq => absurd (show q ∈ ([] : List (Addr × Obj)) ++ [] from hq) (by simp), e0.hok.kept kp, by rw [List.length_set]; exact I.len⟩
  · have hy : scope.names.lookup y = some .cell ∨ scope.names.lookup y = some .free := hy
    rcases hy with hy | hy
    · exact absurd rfl (L.own _ (PySem.mem_of_lookup hy)).1
    · exact look hy
  · have z : false = true := z
    cases z
  · have e1 : X.N[i]? = some y := e1
    have e3 : Vis scope y := e3
    rcases e3 with k | k | k
    · have hy : y = row := (L.own _ (PySem.mem_of_lookup k)).2 rfl
      subst hy
      have hi : i = ir := by
        obtain ⟨a1, a2⟩ := List.getElem?_eq_some_iff.mp e1
        obtain ⟨b1, b2⟩ := List.getElem?_eq_some_iff.mp hir
        exact (List.getElem_inj hN).mp (a2.trans b2.symm)
      subst hi
      have hlt : i < σ.length := by rw [I.len]; exact lt_of_get e1
      rw [List.getElem?_set_self hlt] at e2
      cases e2
      exact ⟨u, r, .inl ⟨k, by simp⟩⟩
    · exact absurd rfl (L.own _ (PySem.mem_of_lookup k)).1
    · have hne : i ≠ ir := fun z => by
        subst z
        rw [e1] at hir
        cases hir
        rw [L.par] at k; cases k
      rw [List.getElem?_set_ne (Ne.symm hne)] at e2
      obtain ⟨m, hn, hl⟩ := I.loc
      have hvis : Vis X.env.scope y := (L.free _ (PySem.mem_of_lookup k) rfl).elim (fun k => .inr (.inl k)) (fun k => .inr (.inr k))
      obtain ⟨w', r', q⟩ := hl i y v' e1 e2 hvis
      obtain ⟨c2, h2⟩ := look k
      refine ⟨w', r', .inr ⟨.inr k, c2, h2, ?_⟩⟩
      have c1 := cm h2
      rcases q with ⟨k', _⟩ | ⟨_, c3, e', z⟩
      · have k' : X.env.scope.names.lookup y = some .local := k'
        rcases L.free _ (PySem.mem_of_lookup k) rfl with k2 | k2 <;> rw [show X.env.scope.names.lookup y = _ from k2] at k' <;> cases k'
      · rw [c1] at e'
        cases e'
        exact cellK z
  · obtain ⟨w', z⟩ := I.cell y c (cm e)
    exact ⟨w', cellK z⟩
/-- the lambda is called -/
theorem lam_call {A : Around} {params : Arguments} {body : Expr} {scope : Scope} {f c' : Addr} {pm ctv : Value} {row : Str} {ir k : Nat} {v : V} {u : Value} {Q : VK} (I : Inv X pins σ H s) (hN : X.N.Nodup) (hir : X.N[ir]? = some row) (L : LamS1 X.env.scope scope row)
    (hf : s.heap.get? f = some (PySem.W.kla_obj "<lambda>" (X.env.qual ++ "<lambda>") params body scope (cloFrom X.env.cells scope.names []) pm c' ctv)) (hA : A.frames = X.A.frames) (hr : Room (k + 1) A) (hc : H c' = some (CodeO c' (X.env.qual ++ "<lambda>"))) (r : RelV v u)
    (hbind : bindArgs (PySem.W.kla_fn "<lambda>" (X.env.qual ++ "<lambda>") params body scope (cloFrom X.env.cells scope.names []) pm (.ref c') ctv) ⟨[u], []⟩ = pure [(row, u)])
    (hbody : Room k (A.deeper (lamEnv X scope s.heap.objs.size f c')) → ∃ tb : TE, PE (lamCx X A X.stack s H (fun _ _ _ => False) scope f c') body tb ∧ tb (σ.set ir (some v)) H Q) :
    wpAny (model X.prog X.w) A (call (.ref f) [u]) (L2.EP X pins σ Q) (fun _ _ => False) s := by
  obtain ⟨⟨oc, vs, t, hoc, hdc, hvc⟩, _, _⟩ := I.hok c' _ hc
  have e0 : Env0 X.prog X.w X.K X.mg X.base A X.stack s H := by
    have := I.env0
    exact ⟨hA.trans this.frames, this.mod, this.bs, this.bsz, this.funs, this.frf, this.hok, this.bare⟩
  have rc : codeAny (model X.prog X.w) A (.call (.ref f) ⟨[u], []⟩) (CR (L2.CX X.prog X.w) X.stack X.prog X.w H s Q (fun _ _ _ => False)) s := by
    refine PySem.W.kla_callFunE hr.depth hf rfl L.co L.gen rfl ⟨c', oc, vs, t, rfl, hoc, hdc, hvc⟩ ?_
    rw [hbind]
    refine wpAny_pure (wpAny_newFunctionEnv (fun y hy => (L.own y hy).1) (fun y hy => by simp at hy; subst hy; exact L.par) (fun h₁ hns hsb => ⟨I.nolimit.fresh _ hsb, ?_⟩) L.kind)
    show codeAny _ _ (.expr body (lamEnv X scope s.heap.objs.size f c')) _ _
    have kp : ∀ b o, s.heap.get? b = some o → h₁.get? b = some o := fun b o e => hsb.extBut b o (Nat.ne_of_lt (Heap.lt_size e)) (Heap.get?_push_of_some _ e)
    have J : Inv (lamCx X A X.stack s H (fun _ _ _ => False) scope f c') [] (σ.set ir (some v)) H { s with heap := h₁, toks := s.toks + [(row, u)].length } := lam_start1 I hN hir L e0 hr.hd r hns kp
    obtain ⟨tb, pb, ht⟩ := hbody (hr.deeper _)
    refine PySem.W.kla_codeExpr (wpAny_mono (pb.run [] _ _ H Q J ht) (fun v s' hq => ?_) fun e s' hq => hq)
    obtain ⟨w', H', J', rv, q⟩ := hq
    exact ⟨w', H', J'.os, J'.bare, J'.base, J'.hok, rv, q⟩
  refine wpAny_call (codeAny_mono rc fun r s' hq => ?_)
  cases r with
  | error e =>
    obtain ⟨_, _, _, _, _, _, _, _, _, _, _, _, z⟩ := hq
    exact z.elim
  | ok fl =>
    cases fl with
    | ret u => exact I.after hq
    | next => exact False.elim hq
    | brk => exact False.elim hq
    | cont => exact False.elim hq
end
end DL

set_option Elab.async false
set_option linter.all false
set_option maxRecDepth 100000
set_option maxHeartbeats 4000000
/-! DL, part v: a sort by keys that a call tells: the loop over the items, any state around. -/
namespace DL
open PySem PySem.Spec L2 PySem.W PySem.Calls PyProof.Rows
section
variable {prog : Program} {w : World} {A : Around} {E : Value → Shared → Prop} {s : Shared} {a kS : Addr} {b : Bool} {vs : List Value} {e1 : Nat} {P : PySem.Fin → Shared → Prop} {kz : List PyData} {f : Value}
/-- what a loop over the items keeps: i of them done, their keys -/
structure KeyJ (prog : Program) (w : World) (A : Around) (f : Value) (a kS : Addr) (e1 : Nat) (vs : List Value) (kz : List PyData) (J : Nat → List Value → Shared → Prop) : Prop where
  at_ : ∀ i ks s, J i ks s → ks.length = i ∧ (∃ e, s.heap.get? kS = some (seqObj "list" ks.toArray e)) ∧ s.heap.get? a = some (seqObj "list" #[] e1)
  turn : ∀ i v ks s, J i ks s → vs[i]? = some v → wpAny (model prog w) A (call f [v]) (fun r s' => (∃ e, s'.heap.get? kS = some (seqObj "list" ks.toArray e)) ∧
    J (i + 1) (ks ++ [r]) { s' with heap := s'.heap.update kS (Obj.mapSeq (·.push r)) }) (fun _ _ => False) s
  done : ∀ ks s, J vs.length ks s → EachIs (fun v k => ∃ as, Reads s.heap v k as) ks kz
theorem keyJ_rest {J : Nat → List Value → Shared → Prop} (K : KeyJ prog w A f a kS e1 vs kz J) (hka : kS ≠ a) (hlen : kz.length = vs.length) (hZ : vs.length ≤ sizeLine) (hal : AllAlike kz) (hsk : Sortable kz) (hu : ∀ d, d ∈ kz → A.units + d.depth < cLine) (j0 : J 0 [] s)
    (h : ∀ ks s', J vs.length ks s' → ∀ h' tk out c, (∀ b o, b ≠ a → b ≠ kS → s'.heap.get? b = some o → h'.get? b = some o) → h'.get? a = some (seqObj "list" (List.toArray out) c) → KeyedOut b kz vs out → P (.done (.ret .none)) { s' with heap := h', toks := tk }) :
    wpAny (model prog w) A (ksk_rest a f b vs.toArray e1 (.ref kS)) P E s := by
  unfold ksk_rest
  refine wpAny_bind (wpAny_rule ?_)
  rw [List.forIn_toArray]
  refine wpAny_bind (ksk_fold (fun i s' => ∃ ks, J i ks s') vs 0 s ⟨[], j0⟩ ?go ?fin)
  case go =>
    rintro j x s' hx ⟨ks, hj⟩
    rw [Nat.zero_add] at hj ⊢
    have hlt : j < vs.length := (List.getElem?_eq_some_iff.mp hx).1
    have hkl := (K.at_ _ _ _ hj).1
    refine wpAny_bind (wpAny_attempt (wpAny_mono (K.turn j x ks s' hj hx) (fun r s2 he => ?_) fun _ _ hF => hF.elim))
    obtain ⟨⟨e, hk⟩, hj2⟩ := he
    have l1 : ks.toArray.size ≤ sizeLine := by rw [List.size_toArray, hkl]; omega
    have l2 : (ks.toArray.push r).size ≤ sizeLine + 1 := by rw [Array.size_push]; omega
    refine wpAny_bind (listUpdate_at hk rfl ?_ l1 l2)
    exact wpAny_pure ⟨rfl, _, hj2⟩
  case fin =>
    rintro s' ⟨ks, hj⟩
    rw [Nat.zero_add] at hj
    obtain ⟨hkl, ⟨e, hk⟩, ha⟩ := K.at_ _ _ _ hj
    have hr := K.done _ _ hj
    obtain ⟨G, g1, g2⟩ := restrict s'.heap fun b => decide (b ≠ kS)
    have kp : KeepsBut a G s'.heap := fun b o hb q => by
      by_cases z : b = kS
      · rw [z, g2 kS (by simp)] at q; cases q
      · rw [g1 b (by simp [z])] at q; exact q
    refine wpAny_bind (listItems_at hk rfl ?_)
    have hS := SortsAt.data (prog := prog) (w := w) (A := A) (s := s') hr hal hsk hu
    refine keyH_end (κ := dataKind s'.heap kz) (keys := ks.toArray) kp (g2 kS (by simp)) hk ha hka hS (by rw [List.size_toArray, hkl]) hZ fun h3 tk3 c k3 n3 => ?_
    exact h ks s' hj h3 tk3 _ c (fun b o h1 h2 q => k3 b o h1 (by rw [g1 b (by simp [h2])]; exact q)) n3 ⟨s'.heap, ks, hal, rfl, hr⟩
end
end DL

set_option Elab.async false
set_option linter.all false
set_option maxRecDepth 100000
set_option maxHeartbeats 4000000
/-! DL, part w: sorted(xs, key=lambda row: ..). -/
namespace DL
open PySem PySem.Spec L2 LamX
section
variable {X : Cx} {pins : List (Addr × Obj)} {σ : L2.St} {H HZ : Hp} {s s1 : Shared}
/-- a lambda is made: what is known of it -/
structure Made1 (X : Cx) (pins : List (Addr × Obj)) (σ : L2.St) (H : Hp) (P : Addr) (q : Str) (params : Arguments) (body : Expr) (scope : Scope) (f c' : Addr) (pm ctv : Value) (G : Hp) (t : Shared) : Prop where
  inv : Inv X pins σ G t
  ext : ExtN H G
  dom : ∀ a, G a = none → H a = none
  tab : TabS G P q
  obj : t.heap.get? f = some (PySem.W.kla_obj "<lambda>" q params body scope (cloFrom X.env.cells scope.names []) pm c' ctv)
  unt : G f = none
  new : X.s_0.heap.objs.size ≤ f
  nofs : f ∉ X.fs
  code : G c' = some (CodeO c' q)
theorem lam_make1 {c P : Addr} {q : Str} {params : Arguments} {body : Expr} {scope : Scope} {pos : Pos} {E : Value → Shared → Prop} {Q : Value → Shared → Prop} (I : Inv X pins σ H s) (TB : TabB X.base X.mg c P) (hcode : X.env.code = .ref c)
    (hq : X.env.qual ++ "<lambda>" = q) (hT : TabS H P q) (hdef : defaultsOf params X.env = ([], [])) (hfree : ∀ y ∈ scope.names, y.2 = .free → ∃ c, X.env.cells.lookup y.1 = some c)
    (h : ∀ f c' pm ctv G t, Made1 X pins σ H P q params body scope f c' pm ctv G t → Q (.ref f) t) : wpAny (model X.prog X.w) X.A (eval (.Lambda params body scope pos) X.env) Q E s := by
  subst hq
  obtain ⟨ps, hP, ht, ha⟩ := hT
  have oP := I.hok P _ hP
  have bB := TB.bm.keeps I.bk
  have bC := TB.code.keeps I.bk
  have bG := I.mod.glob.keeps I.bk
  refine PySem.W.kla_eval hdef ?_
  cases hm : codeAmong pos ps.toList with
  | some cv =>
    obtain ⟨c', rfl, hc'⟩ := ha pos cv hm
    refine PySem.W.kla_makeFunctionHit (c := c) (P := P) (ps := ps) (closure_ok hfree) I.ok.glob bG hcode bC oP ht hm bB fun ctv g tk kp sz => ?_
    exact h _ c' _ ctv H _ ⟨I.kept fun b o e => Heap.get?_push_of_some _ (kp b o e), ExtN.refl H, fun _ e => e, ⟨ps, hP, ht, ha⟩, Heap.get?_push_size _ rfl, I.hok.fresh sz, Nat.le_trans I.sz sz, I.nofs sz, hc'⟩
  | none =>
    refine PySem.W.kla_makeFunction (c := c) (P := P) (ps := ps) (closure_ok hfree) I.ok.glob bG hcode bC oP ht hm TB.gP bB fun c' ctv g tk kp ge lt rec tb => ?_
    obtain ⟨_, oc, vs, t, ec, r1, r2, r3⟩ := rec
    cases ec
    have sz : s.heap.objs.size ≤ g.objs.size := Nat.le_trans ge (Nat.le_of_lt lt)
    have nC := I.hok.fresh ge
    have nPc : P ≠ c' := ne_of_none hP nC
    have J := inv_table (t' := tk) (more := #[rawInt pos.line, rawInt pos.col, .ref c']) (h' := g.push (PySem.W.kla_obj "<lambda>" (X.env.qual ++ "<lambda>") params body scope (cloFrom X.env.cells scope.names []) ((X.mg "__name__").getD .none) c' ctv))
      I hP (fun b o hb e => Heap.get?_push_of_some _ (kp b o hb e)) (Heap.get?_push_of_some _ tb) ge ⟨oc, vs, t, Heap.get?_push_of_some _ r1, r2, r3⟩
    have ext : ExtN H (upd (upd H P (.tbl (ps ++ #[rawInt pos.line, rawInt pos.col, .ref c']))) c' (CodeO c' (X.env.qual ++ "<lambda>"))) := fun b o e n => by
      have h1 : b ≠ c' := ne_of_none e nC
      have h2 : b ≠ P := fun z => by
        rw [z, hP] at e
        exact n ps (Option.some.inj e).symm
      rw [upd_ne h1, upd_ne h2]; exact e
    have fP : g.objs.size ≠ P := Nat.ne_of_gt (Nat.lt_of_lt_of_le (Heap.lt_size oP) sz)
    have fC : g.objs.size ≠ c' := Nat.ne_of_gt lt
    refine h _ c' _ ctv _ _ ⟨J, ext, fun a e => dom_upd a (dom_upd a e), ⟨_, by rw [upd_ne nPc, upd_same], ?_, fun p' cv hcv => ?_⟩, Heap.get?_push_size _ rfl, by rw [upd_ne fC, upd_ne fP]; exact I.hok.fresh sz, Nat.le_trans I.sz sz, I.nofs sz, upd_same⟩
    · rw [Array.toList_append]; exact PySem.TriplesOk_snoc _ _ _ _ ht
    · rw [Array.toList_append] at hcv
      rcases among_app _ ht hcv with z | z
      · obtain ⟨d, d1, d2⟩ := ha p' cv z
        exact ⟨d, d1, ext _ _ d2 codeO_ne⟩
      · exact ⟨c', z, upd_same⟩
/-! ### pins -/
theorem _root_.L2.Inv.pinF {f : Addr} {fd : FuncData} {o : Obj} (I : Inv X pins σ H s) (ho : s.heap.get? f = some o) (hd : o.data = .func fd) (hn : H f = none) (hf : f ∉ X.fs) : Inv X ((f, o) :: pins) σ H s := by
  refine ⟨I.ok, I.os, I.bare, I.base, I.loc, I.cell, I.free, I.freeC, fun p hp => ?_, I.hok, I.len⟩
  have hp : p ∈ X.pn ++ pins ∨ p = (f, o) := by
    simp at hp ⊢
    rcases hp with z | z | z
    · exact .inl (.inl z)
    · exact .inr z
    · exact .inl (.inr z)
  rcases hp with z | rfl
  · exact I.pin p z
  · refine ⟨ho, hn, fun z => ?_, hf, fun v z => ?_⟩
    · obtain ⟨m, ⟨ob, es, ep, h1, h2, _⟩, _⟩ := I.loc
      have z : f = X.env.locals := z
      rw [← z, ho] at h1
      cases h1
      rw [hd] at h2; cases h2
    · have z : o.data = .cell v := z
      rw [hd] at z; cases z
/-- .. of a new object -/
theorem _root_.L2.Inv.pinN {d : Addr} {o : Obj} (I : Inv X pins σ H s) (ho : s.heap.get? d = some o) (hn : H d = none) (h1 : d ≠ X.env.locals) (hf : d ∉ X.fs) (hc : ∀ v, o.data ≠ .cell v) : Inv X ((d, o) :: pins) σ H s := by
  refine ⟨I.ok, I.os, I.bare, I.base, I.loc, I.cell, I.free, I.freeC, fun p hp => ?_, I.hok, I.len⟩
  have hp : p ∈ X.pn ++ pins ∨ p = (d, o) := by
    simp at hp ⊢
    rcases hp with z | z | z
    · exact .inl (.inl z)
    · exact .inr z
    · exact .inl (.inr z)
  rcases hp with z | rfl
  · exact I.pin p z
  · exact ⟨ho, hn, h1, hf, hc⟩
theorem _root_.L2.Inv.unpin {p : Addr × Obj} (I : Inv X (p :: pins) σ H s) : Inv X pins σ H s :=
  ⟨I.ok, I.os, I.bare, I.base, I.loc, I.cell, I.free, I.freeC, fun p hp => I.pin p (by simp at hp ⊢; exact hp.elim .inl fun z => .inr (.inr z)), I.hok, I.len⟩
theorem _root_.L2.Inv.pinAt {d : Addr} {o : Obj} (I : Inv X ((d, o) :: pins) σ H s) : s.heap.get? d = some o ∧ H d = none ∧ d ≠ X.env.locals ∧ d ∉ X.fs ∧ ∀ v, o.data ≠ .cell v := I.pin (d, o) (by simp)
/-- new objects that are not tracked are written; a may be tracked as a list from now on -/
theorem _root_.L2.Inv.over {ch : List Addr} {H' : Hp} {h' : Heap} {tk : Nat} (I : Inv X pins σ H s) (hch : ∀ b ∈ ch, X.s_0.heap.objs.size ≤ b ∧ b ≠ X.env.locals ∧ (∀ o, s.heap.get? b = some o → ∀ v, o.data ≠ .cell v) ∧ H b = none) (sep : ∀ p ∈ X.pn ++ pins, p.1 ∉ ch)
    (kp : ∀ b u, b ∉ ch → s.heap.get? b = some u → h'.get? b = some u) (hH : ∀ b, b ∉ ch → H' b = H b) (hok : ∀ b ∈ ch, ∀ o, H' b = some o → ObjOk X.prog X.w H' h' b o) : Inv X pins σ H' { s with heap := h', toks := tk } := by
  have out : ∀ b u, H b = some u → b ∉ ch := fun b u e z => by
    have := (hch b z).2.2.2
    rw [e] at this; cases this
  have nl : X.env.locals ∉ ch := fun z => (hch _ z).2.1 rfl
  refine I.step (g' := s.gens) (d' := s.drawn) (ch := ch) (fun b hb => ⟨.inr (hch b hb).1, (hch b hb).2.1, fun x c e z => ?_, fun p hp z => sep p hp (z ▸ hb)⟩) (fun b o _ _ hb e _ => kp b o hb e) (fun b o _ _ hb e _ => ⟨o.slots, kp b o hb e⟩) (fun b o hb _ n => by rw [hH b hb]; exact n)
    (fun b o hb e => ⟨o, kp b o hb e⟩) (fun b xs e => by rw [hH b (out b _ e)]; exact e) (fun b o u e => by rw [hH b (out b _ e)]; exact e) (fun b ps e => ⟨#[], by rw [hH b (out b _ e), e]; simp⟩) (fun m ⟨ob, es, ep, ho, r⟩ => ⟨ob, es, ep, kp _ _ nl ho, r⟩) (fun b u e => ?_) I.bare
  · obtain ⟨v, o, ho, hd⟩ := I.cell x c e
    subst z
    exact (hch c hb).2.2.1 o ho v hd
  · by_cases hb : b ∈ ch
    · exact hok b hb u e
    · have e' := e
      rw [hH b hb] at e'
      refine (I.hok b u e').stay (fun d v hd q => kp d v ?_ q) (fun d q => by rw [hH d (out d _ q)]; exact q) fun d xs q => by rw [hH d (out d _ q)]; exact q
      rcases hd with z | z
      · rw [z]; exact hb
      · exact out d _ z
end
/-! ### the keys -/
def keys1 (ir : Nat) (fk : M D) : List D → M (List D)
  | [], e => .ok [] e
  | d :: ds, e => match fk (e.set ir (some (.fz d))) with
    | .ok k e1 => (match keys1 ir fk ds (e1.set ir none) with
      | .ok ks e2 => .ok (k :: ks) e2
      | _ => .no)
    | _ => .no
def sortK (rev : Bool) (ks ds : List D) : List D := ((ds.zip ks).mergeSort (PySem.W.dataLe rev Prod.snd)).map Prod.fst
def mSortKey (rev : Bool) (ir : Nat) (fk : M D) (src : M D) : M Cell := bnd src fun d e => match d with
  | .list ds => if ir < e.length then (match keys1 ir fk ds (e.set ir none) with
    | .ok ks e' => if sortOk ks = true then .ok (.ow (sortK rev ks ds)) e' else .no
    | _ => .no) else .no
  | _ => .no
theorem keys1_cons {ir : Nat} {fk : M D} {d : D} {ds : List D} {e e2 : LE} {ks : List D} (h : keys1 ir fk (d :: ds) e = .ok ks e2) : ∃ k e1 r, fk (e.set ir (some (.fz d))) = .ok k e1 ∧ keys1 ir fk ds (e1.set ir none) = .ok r e2 ∧ ks = k :: r := by
  unfold keys1 at h
  cases h1 : fk (e.set ir (some (.fz d))) with
  | ok k e1 =>
    rw [h1] at h
    simp only at h
    cases h2 : keys1 ir fk ds (e1.set ir none) with
    | ok r e3 => rw [h2] at h; cases h; exact ⟨k, e1, r, rfl, h2, rfl⟩
    | ex _ _ => rw [h2] at h; cases h
    | no => rw [h2] at h; cases h
  | ex _ _ => rw [h1] at h; cases h
  | no => rw [h1] at h; cases h
theorem keys1_len {ir : Nat} {fk : M D} : ∀ {ds : List D} {e e2 : LE} {ks : List D}, keys1 ir fk ds e = .ok ks e2 → ks.length = ds.length
  | [], _, _, _, h => by simp only [keys1, Re.ok.injEq] at h; rw [← h.1]
  | d :: ds, _, _, _, h => by
    obtain ⟨k, e1, r, _, h2, rfl⟩ := keys1_cons h
    simp [keys1_len h2]
section
variable {K : PySem.W.Frag} {mg : Str → Option Value} {F H F1 H1 : Hp} {σ : L2.St} {env : LE} {fp fp1 : FP} {p : Bool}
theorem LOk.back {i : Nat} {v : Option V} (L : LOk K mg F H (σ.set i v) env fp) : LOk K mg F H σ (env.set i none) (fpSet fp i []) := by
  refine ⟨L.same, fun j c q => ?_, fun j q => ?_, fun j k a hjk hj hk => ?_, by rw [List.length_set, ← L.len, List.length_set], L.tab, L.ntf⟩
  · by_cases e : j = i
    · subst e
      have hlt := lt_of_get q
      rw [List.length_set] at hlt
      rw [List.getElem?_set_self hlt] at q; cases q
    · rw [List.getElem?_set_ne (Ne.symm e)] at q
      obtain ⟨w, h1, h2⟩ := L.slot j c q
      rw [List.getElem?_set_ne (Ne.symm e)] at h1
      exact ⟨w, h1, by rw [fpSet_ne e]; exact h2⟩
  · by_cases e : j = i
    · subst e; exact fpSet_same
    · rw [fpSet_ne e]
      exact L.emp j fun c z => q c (by rw [List.getElem?_set_ne (Ne.symm e)]; exact z)
  · by_cases e : j = i
    · subst e; rw [fpSet_same] at hj; cases hj
    · rw [fpSet_ne e] at hj
      by_cases e2 : k = i
      · subst e2; rw [fpSet_same] at hk; cases hk
      · rw [fpSet_ne e2] at hk; exact L.dis j k a hjk hj hk
theorem Mv.back {i : Nat} (m : Mv p F H fp F1 H1 fp1) : Mv p F H fp F1 H1 (fpSet fp1 i []) := ⟨m.f, m.h, m.n, fun a u => by
  rcases U_fpSet u with z | ⟨j, _, z⟩
  · cases z
  · exact m.u a ⟨j, z⟩, m.d⟩
/-- a slot is forgotten -/
theorem LOk.forget {i : Nat} (L : LOk K mg F H σ env fp) : LOk K mg F H σ (env.set i none) (fpSet fp i []) := by
  by_cases h : i < σ.length
  · have e : σ.set i σ[i] = σ := by simp
    rw [← e] at L
    exact L.back
  · have e : σ.set i none = σ := List.set_eq_of_length_le (by omega)
    rw [← e] at L
    exact L.back
end
end DL

set_option Elab.async false
set_option linter.all false
set_option maxRecDepth 100000
set_option maxHeartbeats 4000000
/-! DL, part gc: the gathered lists walked. -/
namespace DL
open PySem PySem.Spec L2
def Itg (a : Addr) (od : Obj) (xs : List (NestedKey × Addr × Addr)) : It where
  go := fun i H => H a = some (.frz od (.ext (GdO a xs))) ∧ i < xs.length
  yld := fun i H x H' => H' = H ∧ ∃ y, xs[i]? = some y ∧ x = .ref y.2.2
  stop := fun i H => H a = some (.frz od (.ext (GdO a xs))) ∧ xs.length ≤ i
theorem turn_gd {P : Program} {w : World} {K : PySem.W.Frag} {tg : Expr} {a it : Addr} {od : Obj} {es : Array DictEntry} {ep : Nat} {xs : List (NestedKey × Addr × Addr)} (h1 : od.ExactDict) (h2 : od.data = .dict es ep) (h3 : es.toList = xs.map fun x => ⟨x.1.hash w, .ref x.2.1, .ref x.2.2⟩) :
    Turn P w K tg (Itg a od xs) [it] it (fun i h => h.IsValIter it a i es.size ep) := by
  have hsz : es.size = xs.length := by rw [← Array.length_toList, h3, List.length_map]
  refine ⟨by simp, fun i h st b hb => ?_, fun i h h' st kp => st.at fun oi e => kp it (by simp) oi e, ?_, ?_, fun A i s Q E st h => wpAny_pyIter_valiter st h⟩
  · have hb : b = it := by simpa using hb
    subst hb
    obtain ⟨oi, e1, _, e3⟩ := st
    exact ⟨oi, e1, fun v z => by rw [e3] at z; cases z⟩
  · intro X hP hw _ _ i pins s σ H E I hf st hg
    subst hP hw
    obtain ⟨ha, hi⟩ := hg
    obtain ⟨p0, p1, _, p3, p4, p5⟩ := hf it (by simp)
    obtain ⟨ea, _⟩ := I.hok a _ ha
    have hlt : i < es.size := by omega
    have hval : es[i].val = .ref (xs[i]'hi).2.2 := by
      have q : es.toList[i]? = some es[i] := by rw [Array.getElem?_toList, Array.getElem?_eq_getElem hlt]
      rw [h3, List.getElem?_map, List.getElem?_eq_getElem hi] at q
      simp only [Option.map_some, Option.some.injEq] at q
      rw [← q]
    refine wpAny_pyNext_values_item_raw st ⟨od, ea, h1, h2⟩ hlt fun g stg sb => ?_
    have J := I.turned (h' := g) (t' := s.toks) (fun b ob hb e => (sb.2 b hb).trans e) p0 p1 p3 p4 p5
    obtain ⟨oi, i1, i2, i3⟩ := id stg
    refine ⟨_, rfl, ?_⟩
    rw [hval]
    exact go_of (s := { s with heap := g }) i1 i2 i3 (by decide) ⟨.ref (xs[i]'hi).2.2, H, J, rfl, ⟨rfl, _, List.getElem?_eq_getElem hi, rfl⟩, stg, fun b hb => (hf b hb).1⟩
  · intro X hP hw _ hc i pins s σ H E I hf st hg
    subst hP hw
    obtain ⟨ha, hi⟩ := hg
    obtain ⟨p0, p1, _, p3, p4, p5⟩ := hf it (by simp)
    obtain ⟨ea, _⟩ := I.hok a _ ha
    exact wpAny_pyNext_values_end_raw (I.ok.hd hc) st ⟨od, ea, h1, h2⟩ (by omega) fun g eb => ⟨rfl, I.turned (h' := g) (t' := s.toks) (fun b ob hb e => eb b ob hb e) p0 p1 p3 p4 p5⟩
def mVals (i : Nat) : M (List D) := fun e => match gdOf i e with
  | some gs => .ok (gs.map fun g => .list g.2) (e.set i none)
  | none => .no
theorem frz_no {od : Obj} {u : HO} : NO (.frz od u) := ⟨(fun _ z => by cases z), (fun _ _ z => by unfold LamX.CodeO at z; cases z)⟩
theorem GdAll.item {K : PySem.W.Frag} {F H : Hp} : ∀ {xs : List (NestedKey × Addr × Addr)} {gs : List (D × List D)} {l : List Addr}, GdAll K F H xs gs l → ∀ {i : Nat} {y : NestedKey × Addr × Addr}, xs[i]? = some y → ∃ g vs, gs[i]? = some g ∧ y.2.2 ∈ l ∧ H y.2.2 = some (.lst vs) ∧ DqAll K F vs g.2
  | _, _, _, .nil, _, _, e => by simp at e
  | _, _, _, .cons h1 h0 h2 h3 h4 h5 h6 t, 0, _, e => by simp at e; subst e; exact ⟨_, _, rfl, by simp, h4, h5⟩
  | _, _, _, .cons h1 h0 h2 h3 h4 h5 h6 t, i + 1, _, e => by
    obtain ⟨g, vs, a1, a2, a3, a4⟩ := t.item (i := i) (by simpa using e)
    exact ⟨g, vs, by simpa using a1, by simp [a2], a3, a4⟩
section
variable {X : Cx} {W : WX} {tg : Expr} {pos : Pos}
theorem ei_vals (i : Nat) {x : Str} {apos npos : Pos}
    (hN : X.N[i]? = some x := by rfl) (hv : Vis X.env.scope x := by first | exact Or.inl rfl | exact Or.inr (Or.inl rfl) | exact Or.inr (Or.inr rfl)) (hd : (x == ("__debug__" : Str)) = false := by decide) (hcd : (x == ("__classdict__" : Str)) = false := by decide)
    (hbase : attributeBase (.Name x npos) "values" X.env (eval (.Name x npos) X.env) = eval (.Name x npos) X.env := by rfl) (hline : (apos.endLine == pos.line) = true := by rfl) :
    EI X W true false false tg (.Call (.Attribute (.Name x npos) "values" apos) [] [] pos) (mVals i) := by
  refine ⟨fun σ H R => ∃ F env fp gs, LOk X.K X.mg F H σ env fp ∧ gdOf i env = some gs ∧ wpE X W false F H σ fp (.ok (gs.map fun g => .list g.2) (env.set i none)) (fun ds _ F' H' _ => ∀ J, Stp X true false F' H' J ds → R J H'), ⟨fun pins s σ H R I h => ?_⟩, fun F H σ env fp R L P => ?_⟩
  · obtain ⟨F0, env, fp, gs, L, h0, P⟩ := h
    obtain ⟨a, xs, l, y1, y2, y3, y4, y5, y6, y7, y8⟩ := gd_own L h0
    refine wpAny_Call_method (T := "dict") (id := "dict.values") hbase rfl hline F.plainAttrs_dict F.slot_dict_values F.type_dict_values (thn ((pe_var hN hv hd hcd).run pins s σ H (fun v H' => v = .ref a ∧ H' = H) I ⟨_, y1, rfl, rfl⟩) fun u s1 ⟨v, H1, I1, r1, ev, eH⟩ => ?_)
    subst ev
    subst eH
    obtain rfl : u = Value.ref a := r1
    obtain ⟨od, I2⟩ := I1.lock y4 trivial
    obtain ⟨ea, ⟨o, es, ep, e1, e2, e3, e4⟩, _⟩ := I2.hok a _ upd_same
    rw [ea] at e1
    cases e1
    have I3 : Inv X pins σ (upd H1 a (.frz od (.ext (GdO a xs)))) { s1 with heap := s1.heap.push { cls := .type "dict_values", data := .fields #[.ref a] } } := I2.kept (t' := s1.toks) fun b ob q => Heap.get?_push_of_some _ q
    have nU : ∀ b ∈ a :: l, ¬ U (fpSet fp i []) b := fun b hb u => by
      obtain ⟨j, hj⟩ := u
      by_cases q : j = i
      · subst q; rw [fpSet_same] at hj; cases hj
      · rw [fpSet_ne q] at hj
        exact L.dis j i b q hj (by rw [y2]; exact hb)
    have L1 : LOk X.K X.mg F0 (upd H1 a (.frz od (.ext (GdO a xs)))) σ (env.set i none) (fpSet fp i []) := LOk.updNew (L.forget (i := i)) y3 (nU a (by simp)) (.inr ⟨_, y4, gdO_no _ _⟩)
    have own : ∀ b ∈ a :: l, F0 b = none ∧ ∃ o, upd H1 a (.frz od (.ext (GdO a xs))) b = some o ∧ NO o := fun b hb => by
      by_cases q : b = a
      · subst q; exact ⟨y3, _, upd_same, frz_no⟩
      · have hb : b ∈ l := by simpa [q] using hb
        rw [upd_ne q]; exact y7.free b hb
    have sF := frzAt_same (F := F0) (H := upd H1 a (.frz od (.ext (GdO a xs)))) (l := a :: l) fun b hb => (own b hb).1
    have L2 : LOk X.K X.mg (frzAt F0 (upd H1 a (.frz od (.ext (GdO a xs)))) (a :: l)) (upd H1 a (.frz od (.ext (GdO a xs)))) σ (env.set i none) (fpSet fp i []) :=
      L1.ext sF (frzAt_le L1.same) (fun _ _ _ e _ => e) (fun b u => by rw [frzAt_out (fun hb => nU b hb u)]; exact (L1.free u).1) L1.tab (ntf_frz L1.ntf fun b hb => (own b hb).2)
    have hai : U fp a := ⟨i, by rw [y2]; simp⟩
    have m : Mv false F0 H1 fp (frzAt F0 (upd H1 a (.frz od (.ext (GdO a xs)))) (a :: l)) (upd H1 a (.frz od (.ext (GdO a xs)))) (fpSet fp i []) := by
      refine ⟨sF, fun b o e nt q => ?_, fun b o e => ?_, fun b u => ?_, dom_upd⟩
      · rw [upd_ne (fun z => by subst z; exact q rfl hai)]; exact e
      · by_cases hb : b ∈ a :: l
        · exact .inr (.inr ⟨i, by rw [y2]; exact hb⟩)
        · rw [frzAt_out hb] at e; exact .inl e
      · rcases U_fpSet u with z | ⟨j, _, z⟩
        · cases z
        · exact .inl ⟨j, z⟩
    have stp : Stp X true false (frzAt F0 (upd H1 a (.frz od (.ext (GdO a xs)))) (a :: l)) (upd H1 a (.frz od (.ext (GdO a xs)))) (Itg a od xs) (gs.map fun g => .list g.2) := by
      intro F2 H2 s1 s2 _ j
      have hA : H2 a = some (.frz od (.ext (GdO a xs))) := s2 _ _ (s1 _ _ (by rw [frzAt_in (by simp), upd_same]))
      have hlen : (gs.map fun g => PyData.list g.2).length = xs.length := by rw [List.length_map, y7.len]
      refine ⟨fun hj => ⟨hA, by omega⟩, fun hj => ⟨hA, by omega⟩, fun x H3 hj hy => ?_⟩
      obtain ⟨rfl, y, hy1, rfl⟩ := hy
      obtain ⟨g, vs, b1, b2, b3, b4⟩ := y7.item hy1
      have hne : y.2.2 ≠ a := fun q => by rw [q] at b2; exact y8 b2
      refine ⟨.list g.2, by rw [List.getElem?_map, b1]; rfl, ?_⟩
      simp only [Bool.false_eq_true, if_false]
      refine ⟨trivial, .lst (.inl (.inl (s1 _ _ ?_))) (DqAll_mono (sF.trans s1) _ _ b4)⟩
      rw [frzAt_in (by simp [b2]), upd_ne hne]; exact b3
    have fin : wpAny (model X.prog X.w) X.A (pyIter (.ref s1.heap.objs.size)) (PIE X pins σ tg R) X.xe { s1 with heap := s1.heap.push { cls := .type "dict_values", data := .fields #[.ref a] } } := by
      refine wpAny_pyIter_values_raw (d := a) (es := es) (ep := ep) ⟨_, Heap.get?_push_size _ rfl, rfl, rfl⟩ ⟨od, Heap.get?_push_of_some _ ea, e2, e3⟩ (pi_one (tk := s1.toks) I3 _ (turn_gd (w := X.w) e2 e3 (e4 X.w)) ⟨_, Heap.get?_push_size _ rfl, rfl, rfl⟩ (P _ _ _ m L2 _ stp))
    refine ⟨⟨od, ea, e2.1⟩, fun b eb => ?_, ?_⟩
    · cases eb
      exact ⟨od, ea, e2.2.1⟩
    · show wpAny _ _ (callWith pos (.builtin "dict.values") [.ref a] [] []) _ X.xe s1
      exact method_meetsIn F.slot_dict_values F.entry_dict_values rfl (PySem.evalArgs_none ⟨by first | rfl | trivial, ⟨od, ea, e2.1⟩, F.args_dict_values_1 _, _, meets_dict_values_raw a y5, ⟨⟨es, ep, od, ea, e2, e3⟩, fin⟩⟩)
  · unfold mVals at P
    cases h0 : gdOf i env with
    | none => rw [h0] at P; exact P.elim
    | some gs => rw [h0] at P; exact ⟨F, env, fp, gs, L, h0, P⟩
end
end DL

set_option Elab.async false
set_option linter.all false
set_option maxRecDepth 100000
set_option maxHeartbeats 4000000
/-! DL, part y: sorted(xs, key=lambda row: ..), the rule. -/
namespace DL
open PySem PySem.Spec L2 LamX PyProof.Rows
open PySem.W (KeyedOut AllAlike Sortable EachIs)
abbrev fobjOf (X : Cx) (q : Str) (params : Arguments) (body : Expr) (scope : Scope) (pm : Value) (c' : Addr) (ctv : Value) : Obj := PySem.W.kla_obj "<lambda>" q params body scope (cloFrom X.env.cells scope.names []) pm c' ctv
def LJ (X : Cx) (pins : List (Addr × Obj)) (σ : L2.St) (fobj : Obj) (f c' a kS : Addr) (e1 : Nat) (q : Str) (F H : Hp) (fp : FP) (ir : Nat) (fk : M D) (ds ksA : List D) (eE : LE) : Nat → List Value → Shared → Prop := fun j ks s =>
  ∃ (G Hj : Hp) (ej : LE) (fpj : FP) (kvs : List V) (kds rest : List D) (e : Nat),
    Inv X ((kS, seqObj "list" ks.toArray e) :: (a, seqObj "list" #[] e1) :: (f, fobj) :: pins) σ Hj s ∧ LOk X.K X.mg G Hj σ ej fpj ∧ Mv true F H fp G Hj fpj ∧ Vals kvs ks ∧ DqAll X.K G kvs kds ∧ kds.length = j ∧
      keys1 ir fk (ds.drop j) ej = .ok rest eE ∧ ksA = kds ++ rest ∧ Hj c' = some (CodeO c' q)
section
variable {X : Cx} {pins : List (Addr × Obj)} {σ : L2.St} {F H : Hp} {fp : FP} {f c' a kS : Addr} {e1 ir k : Nat} {q row : Str} {fk : M D} {ds ksA : List D} {eE : LE} {params : Arguments} {body : Expr} {scope : Scope} {pm ctv : Value} {A : Around} {vs : List Value} {xs : List V}
theorem vals_at : ∀ {xs : List V} {vs : List Value} {j : Nat} {v : Value}, Vals xs vs → vs[j]? = some v → ∃ x, xs[j]? = some x ∧ RelV x v
  | _, _, _, _, .nil, e => by simp at e
  | _, _, 0, _, .cons r _, e => by simp at e; subst e; exact ⟨_, rfl, r⟩
  | _, _, j + 1, _, .cons _ t, e => by
    obtain ⟨x, h1, h2⟩ := vals_at (j := j) t (by simpa using e)
    exact ⟨x, by simpa using h1, h2⟩
theorem vals_snoc : ∀ {xs : List V} {vs : List Value} {x : V} {v : Value}, Vals xs vs → RelV x v → Vals (xs ++ [x]) (vs ++ [v])
  | _, _, _, _, .nil, r => .cons r .nil
  | _, _, _, _, .cons r1 t, r => .cons r1 (vals_snoc t r)
theorem keyJ_lam (hN : X.N.Nodup) (hir : X.N[ir]? = some row) (L1 : LamS1 X.env.scope scope row) (hq : X.env.qual ++ "<lambda>" = q) (hA : A.frames = X.A.frames) (hr : Room (k + 1) A)
    (hbind : ∀ u, bindArgs (PySem.W.kla_fn "<lambda>" (X.env.qual ++ "<lambda>") params body scope (cloFrom X.env.cells scope.names []) pm (.ref c') ctv) ⟨[u], []⟩ = pure [(row, u)])
    (HB : ∀ (s : Shared) (H : Hp), Room k (A.deeper (lamEnv X scope s.heap.objs.size f c')) → ES (lamCx X A X.stack s H (fun _ _ _ => False) scope f c') (fun _ _ _ _ => False) true body fk)
    (rv : Vals xs vs) (dv : DqAll X.K F xs ds) (hkn : X.s_0.heap.objs.size ≤ kS) (sep : ∀ p ∈ X.pn ++ ((a, seqObj "list" #[] e1) :: (f, fobjOf X q params body scope pm c' ctv) :: pins), p.1 ≠ kS) :
    KeyJ X.prog X.w A (.ref f) a kS e1 vs ksA (LJ X pins σ (fobjOf X q params body scope pm c' ctv) f c' a kS e1 q F H fp ir fk ds ksA eE) := by
  have hxl := rv.length
  have hdl := dv.len
  refine ⟨?_, ?_, ?_⟩
  · rintro j ks s ⟨G, Hj, ej, fpj, kvs, kds, rest, e, I, L, m, r, d, hl, _⟩
    refine ⟨by have := r.length; have := d.len; omega, ⟨e, I.pinAt.1⟩, I.unpin.pinAt.1⟩
  · rintro j v ks s ⟨G, Hj, ej, fpj, kvs, kds, rest, e, I, L, m, r, d, hl, hk, hkA, hc⟩ hv
    obtain ⟨x, hx, rx⟩ := vals_at rv hv
    obtain ⟨dd, hd, dx⟩ := dv.atV hx
    have hlt := lt_of_get hd
    have hdrop : ds.drop j = dd :: ds.drop (j + 1) := by
      obtain ⟨h1, h2⟩ := List.getElem?_eq_some_iff.mp hd
      rw [← h2]; exact List.drop_eq_getElem_cons h1
    rw [hdrop] at hk
    obtain ⟨kd, e2, rest', hfk, hk', rfl⟩ := keys1_cons hk
    have hirl : ir < ej.length := by rw [← L.len, I.len]; exact lt_of_get hir
    have L' : LOk X.K X.mg G Hj (σ.set ir (some x)) (ej.set ir (some (.fz dd))) (fpSet fpj ir []) := L.set hirl (.fz (Dq_mono m.f _ _ dx)) (fun _ z => by cases z)
    subst hq
    refine wpAny_mono (lam_call (k := k) (v := x) (Q := fun y H' => ∃ G2 fp2, Mv true G Hj (fpSet fpj ir []) G2 H' fp2 ∧ LOk X.K X.mg G2 H' (σ.set ir (some x)) e2 fp2 ∧ Dq X.K G2 y kd ∧ H' c' = some (CodeO c' (X.env.qual ++ "<lambda>"))) I hN hir L1 I.unpin.unpin.pinAt.1 hA hr hc rx (hbind v) fun hrm => ?_) (fun rr s2 he => ?_) fun _ _ z => z
    · obtain ⟨t, pe, kk⟩ := HB s Hj hrm
      refine ⟨t, pe, kk G Hj (σ.set ir (some x)) (ej.set ir (some (.fz dd))) (fpSet fpj ir []) _ L' ?_⟩
      rw [hfk]
      exact fun F' H' fp' m' L'' y dy => ⟨F', fp', m', L'', dy, m'.h _ _ hc (fun _ z => by unfold CodeO at z; cases z) (fun z => by cases z)⟩
    · obtain ⟨y, H2, I2, ry, G2, fp2, m2, L2', dy, hc2⟩ := he
      obtain ⟨p1, p2, p3, p4, p5⟩ := I2.pinAt
      obtain ⟨c2, hc2'⟩ : ∃ c2, (s2.heap.update kS (Obj.mapSeq (·.push rr))).get? kS = some (seqObj "list" (ks.toArray.push rr) c2) := ⟨_, get?_update_seq p1 (·.push rr)⟩
      have sb := Heap.SameBut.update s2.heap kS (Obj.mapSeq (·.push rr))
      have hpush : ks.toArray.push rr = (ks ++ [rr]).toArray := by simp
      rw [hpush] at hc2'
      have mm : Mv true F H fp G2 H2 (fpSet fp2 ir []) := (m.trans ⟨m2.f, (fun b o e nt _ => m2.h b o e nt (fun z => by cases z)), fun a o e => (m2.n a o e).imp id (fun z => z.imp id fun u => by
        rcases U_fpSet u with w | ⟨j', _, w⟩
        · cases w
        · exact ⟨j', w⟩), fun a u => (m2.u a u).imp (fun u => by
        rcases U_fpSet u with w | ⟨j', _, w⟩
        · cases w
        · exact ⟨j', w⟩) id, m2.d⟩).back
      refine ⟨⟨e, p1⟩, G2, H2, e2.set ir none, fpSet fp2 ir [], kvs ++ [y], kds ++ [kd], rest', c2, ?_, L2'.back, mm, vals_snoc r ry, (DqAll_mono m2.f _ _ d).append (.cons dy .nil), by simp [hl], hk', by rw [hkA]; simp, hc2⟩
      refine (Inv.over (ch := [kS]) (H' := H2) (tk := s2.toks) I2.unpin (fun b hb => ?_) (fun p hp z => ?_) (fun b u hb e => ?_) (fun _ _ => rfl) (fun b hb o e => ?_)).pinN hc2' p2 p3 p4 (fun v z => ?_)
      · simp at hb; subst hb
        exact ⟨hkn, p3, fun o e v => by rw [p1] at e; cases e; exact p5 v, p2⟩
      · simp at z; exact sep p hp z
      · simp at hb; exact (sb.2 b hb).trans e
      · simp at hb; subst hb; rw [p2] at e; cases e
      · cases z
  · rintro ks s ⟨G, Hj, ej, fpj, kvs, kds, rest, e, I, L, m, r, d, hl, hk, hkA, hc⟩
    rw [List.drop_of_length_le (by omega)] at hk
    simp only [keys1, Re.ok.injEq] at hk
    rw [← hk.1, List.append_nil] at hkA
    subst hkA
    exact (eachIs_of r d).mono fun u d' ⟨v, r1, d1⟩ => (Dq_mono L.same _ _ d1).dp.reads I _ _ _ r1
theorem key_tree {prog : Program} {w : World} {E : Value → Shared → Prop} {P : PySem.Fin → Shared → Prop} {s : Shared} {b : Bool} {n : Nat} {g : Value} (ho : s.heap.get? a = some (seqObj "list" vs.toArray n)) (hZ : vs.length ≤ sizeLine)
    (go : ∀ (h1 : Heap) (e1 kS : Nat), h1.get? a = some (seqObj "list" #[] e1) → h1.get? kS = some (seqObj "list" #[] 0) → s.heap.objs.size ≤ kS → (∀ b o, b ≠ a → s.heap.get? b = some o → h1.get? b = some o) → wpAny (model prog w) A (ksk_rest a g b vs.toArray e1 (.ref kS)) P E { s with heap := h1 }) :
    wpAny (model prog w) A (ksk_tree a g b) P E s := by
  obtain ⟨e1, o1⟩ : ∃ e1, (s.heap.update a (Obj.mapSeq fun _ => (#[] : Array Value))).get? a = some (seqObj "list" #[] e1) := ⟨_, get?_update_seq ho fun _ => #[]⟩
  have sb := Heap.SameBut.update s.heap a (Obj.mapSeq fun _ => (#[] : Array Value))
  unfold ksk_tree
  refine wpAny_bind (listItems_at ho rfl (wpAny_bind (listUpdate_at ho rfl ?_ (by simpa using hZ) (Nat.zero_le _))))
  refine wpAny_bind (seqEpoch_at o1 rfl (wpAny_bind (wpAny_newTuple (wpAny_bind (wpAny_newList (wpAny_holding ?_) (Nat.zero_le _))) (by simpa using hZ))))
  refine go _ e1 _ (Heap.get?_push_of_some _ (Heap.get?_push_of_some _ o1)) (Heap.get?_push_size _ rfl) (by rw [size_push', Heap.size_update]; omega) fun b o hb q => Heap.get?_push_of_some _ (Heap.get?_push_of_some _ ((sb.2 b hb).trans q))
theorem eachIs_zip {α β γ : Type} {R : α → β → Prop} : ∀ {as : List α} {bs : List β} {cs : List γ}, EachIs R as bs → bs.length = cs.length → EachIs (fun a (b : β × γ) => R a b.1) as (bs.zip cs)
  | _, _, [], .nil, _ => .nil
  | _, _, _ :: _, .nil, h => by cases h
  | _, _, [], .cons _ _, h => by cases h
  | _, _, _ :: _, .cons r t, h => .cons r (eachIs_zip t (by simpa using h))
theorem eachIs_fst {α β γ : Type} {R : α → β → Prop} : ∀ {as : List α} {bs : List (β × γ)}, EachIs (fun a b => R a b.1) as bs → EachIs R as (bs.map Prod.fst)
  | _, _, .nil => .nil
  | _, _, .cons r t => .cons r (eachIs_fst t)
theorem sortLam_core {s : Shared} {env : LE} {rev : Bool} {l : Addr} {kw : List (Str × Value)} {E : Value → Shared → Prop} {Q : VK} (I : Inv X ((f, fobjOf X q params body scope pm c' ctv) :: pins) σ H s) (L : LOk X.K X.mg F H σ env fp) (hl : SqL X.K H l xs) (dv : DqAll X.K F xs ds)
    (hc : H c' = some (CodeO c' q)) (hr : Room (k + 3) X.A) (hu : X.A.units + 65 < cLine) (hN : X.N.Nodup) (hir : X.N[ir]? = some row) (L1 : LamS1 X.env.scope scope row) (hq : X.env.qual ++ "<lambda>" = q)
    (hbind : ∀ u, bindArgs (PySem.W.kla_fn "<lambda>" (X.env.qual ++ "<lambda>") params body scope (cloFrom X.env.cells scope.names []) pm (.ref c') ctv) ⟨[u], []⟩ = pure [(row, u)])
    (HB : ∀ (s : Shared) (H : Hp), Room k (X.A.in1.in1.deeper (lamEnv X scope s.heap.objs.size f c')) → ES (lamCx X X.A.in1.in1 X.stack s H (fun _ _ _ => False) scope f c') (fun _ _ _ _ => False) true body fk)
    (ha1 : argsOk "sorted" ⟨[.ref l], kw⟩) (ha2 : ∀ x, argsOk "list.sort" ⟨[.ref x], kw⟩) (ht : ∀ x, Builtin.«list.sort» ⟨[.ref x], kw⟩ = ksk_tree x (.ref f) rev)
    (hk : keys1 ir fk ds (env.set ir none) = .ok ksA eE) (hok : sortOk ksA = true)
    (hQ : ∀ F' H' fp', Mv true F H fp F' H' fp' → LOk X.K X.mg F' H' σ eE fp' → ∀ v, NewC X F H fp F' H' fp' v (.ow (sortK rev ksA ds)) → Q v H') :
    wpAny (model X.prog X.w) X.A (call (.builtin "sorted") [.ref l] kw) (L2.EP X pins σ Q) E s := by
  obtain ⟨its, rv, pl, hz⟩ := I.list hl
  have l1 := rv.length
  have l2 := dv.len
  have l3 := keys1_len hk
  have hZ : its.length ≤ sizeLine := by omega
  refine PySem.W.sorted_of_sort pl.isList hZ ha1 ha2 fun E' => ?_
  rw [ht]
  refine key_tree (PySem.W.copyHeap_at s.heap its) hZ fun h1 e1 kS ha hkS hkn kp => ?_
  have hn : s.heap.objs.size + 1 < kS := by
    have h2 : s.heap.objs.size + 1 < (PySem.W.copyHeap s.heap its).objs.size := Heap.lt_size (PySem.W.copyHeap_at s.heap its)
    exact Nat.lt_of_lt_of_le h2 hkn
  have kp0 : ∀ b u, s.heap.get? b = some u → h1.get? b = some u := fun b u e => kp b u (Nat.ne_of_lt (Nat.lt_succ_of_lt (Heap.lt_size e))) (PySem.W.copyHeap_old e)
  have fa : H (s.heap.objs.size + 1) = none := I.hok.fresh (Nat.le_succ _)
  have fk' : H kS = none := I.hok.fresh (Nat.le_of_lt (Nat.lt_trans (Nat.lt_succ_self _) hn))
  have nl : ∀ b, s.heap.objs.size ≤ b → b ≠ X.env.locals := fun b hb z => by
    have hlt := I.lt
    rw [← z] at hlt
    exact absurd hb (Nat.not_le.mpr hlt)
  have sz0 := I.sz
  have w1 : s.heap.objs.size ≤ kS := by omega
  have w2 : X.s_0.heap.objs.size ≤ kS := Nat.le_trans sz0 w1
  have w3 : kS ≠ s.heap.objs.size + 1 := by omega
  have w4 : X.s_0.heap.objs.size ≤ s.heap.objs.size + 1 := Nat.le_succ_of_le sz0
  have I1 : Inv X ((kS, seqObj "list" #[] 0) :: (s.heap.objs.size + 1, seqObj "list" #[] e1) :: (f, fobjOf X q params body scope pm c' ctv) :: pins) σ H { s with heap := h1, toks := s.toks } :=
    ((I.kept (t' := s.toks) kp0).pinN ha fa (nl _ (Nat.le_succ _)) (I.nofs (Nat.le_succ _)) (fun v z => by cases z)).pinN hkS fk' (nl _ w1) (I.nofs w1) (fun v z => by cases z)
  have old : ∀ p ∈ X.pn ++ ((f, fobjOf X q params body scope pm c' ctv) :: pins), p.1 < s.heap.objs.size := fun p hp => Heap.lt_size (I.pin p hp).1
  have hA : X.A.in1.in1.frames = X.A.frames := rfl
  refine keyJ_rest (keyJ_lam (pins := pins) (σ := σ) (ksA := ksA) (eE := eE) (H := H) (fp := fp) (k := k) hN hir L1 hq hA (hr.in1.in1) hbind HB rv dv w2 (fun p hp z => ?_)) w3 (by omega) hZ (sortOk_alike hok) (sortOk_sortable hok) (fun d hd => ?_) ?_ ?_
  · rw [List.mem_append, List.mem_cons] at hp
    rcases hp with w | w | w
    · have := old p (List.mem_append_left _ w); rw [z] at this; exact absurd w1 (Nat.not_le.mpr this)
    · rw [w] at z; exact w3 z.symm
    · have := old p (List.mem_append_right _ w); rw [z] at this; exact absurd w1 (Nat.not_le.mpr this)
  · have := sortOk_depth hok d hd
    show X.A.units + 1 + 1 + d.depth < cLine
    omega
  · exact ⟨F, H, env.set ir none, fpSet fp ir [], [], [], ksA, 0, I1, L.forget, (Mv.refl true F H fp).back, .nil, .nil, rfl, by simpa using hk, rfl, hc⟩
  · rintro ks s' ⟨G, Hj, ej, fpj, kvs, kds, rest, e, I2, L2', m, r, d, hl', hk', hkA, hc'⟩ h' tk out c kp' ho ko
    rw [List.drop_of_length_le (by omega)] at hk'
    simp only [keys1, Re.ok.injEq] at hk'
    obtain ⟨_, hee⟩ := hk'
    subst hee
    obtain ⟨b1, b2, b3, b4, b5⟩ := I2.pinAt
    obtain ⟨a1, a2, a3, a4, a5⟩ := I2.unpin.pinAt
    have hzl : ds.length = ksA.length := l3.symm
    have hsnd : (ds.zip ksA).map Prod.snd = ksA := List.map_snd_zip (by omega)
    have ev := eachIs_fst (R := fun (u : Value) d => ∃ v, RelV v u ∧ Dq X.K F v d) (PySem.W.keyedOut_each (β := D × D) (bs := ds.zip ksA) (R := fun u b => ∃ v, RelV v u ∧ Dq X.K F v b.1) Prod.snd (by rw [hsnd]; exact ko) (eachIs_zip (eachIs_of rv dv) hzl))
    obtain ⟨ys, hv, hd⟩ := eachIs_to ev
    have hol : out.length = its.length := ko.length (by omega)
    have hyl : ys.length ≤ sizeLine := by rw [hv.length, hol]; exact hZ
    have gA : G (s.heap.objs.size + 1) = none := by
      cases z : G (s.heap.objs.size + 1) with
      | none => rfl
      | some o => have := L2'.same _ _ z; rw [a2] at this; cases this
    have nU : ¬ U fpj (s.heap.objs.size + 1) := fun u => by
      obtain ⟨_, o, z, _⟩ := L2'.free u
      rw [a2] at z; cases z
    have hka := w3
    refine ⟨rfl, .ref _, upd Hj (s.heap.objs.size + 1) (.lst ys), (Inv.over (ch := [kS, s.heap.objs.size + 1]) I2.unpin.unpin (fun b hb => ?_) (fun p hp z => ?_) (fun b u hb e => ?_) (fun b hb => ?_) (fun b hb o e => ?_)).unpin, rfl, ?_⟩
    · simp at hb
      rcases hb with rfl | rfl
      · exact ⟨w2, b3, fun o e v => by rw [b1] at e; cases e; exact b5 v, b2⟩
      · exact ⟨w4, a3, fun o e v => by rw [a1] at e; cases e; exact a5 v, a2⟩
    · have := old p hp
      simp only [List.mem_cons, List.not_mem_nil, or_false] at z
      rcases z with z | z
      · rw [z] at this; exact absurd w1 (Nat.not_le.mpr this)
      · rw [z] at this; exact absurd this (Nat.not_lt.mpr (Nat.le_succ _))
    · simp at hb
      exact kp' b u hb.2 hb.1 e
    · simp at hb
      exact upd_ne hb.2
    · simp at hb
      rcases hb with rfl | rfl
      · rw [upd_ne hka, b2] at e; cases e
      · rw [upd_same] at e
        cases e
        exact ⟨hyl, out, c, hv, ho⟩
    · exact hQ G _ fpj (m.updNew fa) (L2'.updNew gA nU (.inl a2)) _ ⟨[s.heap.objs.size + 1], .ow gA upd_same (DqAll_mono m.f _ _ hd), (fun b hb => by simp at hb; subst hb; exact nU), (fun b hb => by simp at hb; subst hb; exact .inr fa)⟩
end
end DL

set_option Elab.async false
set_option linter.all false
set_option maxRecDepth 100000
set_option maxHeartbeats 4000000
/-! DL, part x: the start of a law. -/
namespace DL
open PySem PySem.Spec L2
/-- all but the tables -/
def noT (H : Hp) : Hp := fun a => match H a with
  | some (.tbl _) => none
  | o => o
theorem noT_same (H : Hp) : Same (noT H) H := fun a o e => by
  unfold noT at e
  split at e
  · cases e
  · exact e
theorem noT_nt (H : Hp) : ∀ a o, noT H a = some o → NT o := fun a o e ps z => by
  subst z
  unfold noT at e
  split at e
  · cases e
  · rename_i h
    exact h ps e
theorem noT_at {H : Hp} {a : Addr} {o : HO} (e : H a = some o) (n : NT o) : noT H a = some o := by
  unfold noT
  split
  · rename_i ps h
    rw [e] at h
    cases h
    exact (n ps rfl).elim
  · exact e
theorem sqL_noT {K : PySem.W.Frag} {H : Hp} {a : Addr} {xs : List V} (h : SqL K H a xs) : SqL K (noT H) a xs := by
  rcases h with (h | ⟨o, h⟩) | h
  · exact .inl (.inl (noT_at h (fun _ z => by cases z)))
  · exact .inl (.inr ⟨o, noT_at h (fun _ z => by cases z)⟩)
  · exact .inr h
theorem sp_start {K : PySem.W.Frag} {mg : Str → Option Value} {g : Fn} (H : Hp) (tb : TabOk K mg H) (a : Addr) (ns : List Int) (hS : SqL K H a (ns.map V.int)) (hg : g [.list (ns.map .int)] = .ok (.fz (.bool true))) : spD K mg 1 g [.ref a] H (fun v _ => v = .bl true) fun _ _ _ => False := by
  refine ⟨rfl, noT H, [.list (ns.map .int)], noT_same H, noT_nt H, tb, .cons (.lst (sqL_noT hS) (DqAll.ints ns)) .nil, ?_⟩
  rw [hg]
  intro v F' H' l _ _ o _
  cases o with
  | fz h => cases h; rfl
end DL

set_option Elab.async false
set_option linter.all false
set_option maxRecDepth 100000
set_option maxHeartbeats 4000000
/-! DL, part z: sorted(xs, key=lambda row: ..) as an expression. -/
namespace DL
open PySem PySem.Spec L2 LamX PyProof.Rows
/-- the maker's table -/
def TabB1 (X : Cx) : Prop := ∃ c P, TabB X.base X.mg c P ∧ X.env.code = .ref c ∧ TabAt X.K X.mg P
section
variable {X : Cx} {W : WX} {p : Bool} {e body : Expr} {params : Arguments} {scope : Scope} {pos p0 lpos kpos kpos2 tpos : Pos} {src fk : M D} {row : Str} {k : Nat}
theorem TabAt.uniq {K : PySem.W.Frag} {mg : Str → Option Value} {P P' : Addr} (a : TabAt K mg P) (b : TabAt K mg P') : P = P' := by
  obtain ⟨f, c, h1, h2, h3⟩ := a
  obtain ⟨f', c', g1, g2, g3⟩ := b
  rw [h1] at g1; cases g1
  rw [h2] at g2; cases g2
  rw [h3] at g3; cases g3
  rfl
/-- what is asked of keywords behind key= -/
structure KwRest (X : Cx) (rest : List Keyword) (rev : Bool) (ksr : List Str) : Prop where
  run : ∀ (pos : Pos) (pins : List (Addr × Obj)) (s : Shared) (σ : L2.St) (H : Hp) (Q : List Value → Shared → Prop), Inv X pins σ H s →
    (∀ ws s', Inv X pins σ H s' → (∀ q l, argsOk "sorted" ⟨[.ref l], (Str.ofString "key", .ref q) :: ksr.zip ws⟩ ∧ argsOk "list.sort" ⟨[.ref l], (Str.ofString "key", .ref q) :: ksr.zip ws⟩ ∧
      Builtin.«list.sort» ⟨[.ref l], (Str.ofString "key", .ref q) :: ksr.zip ws⟩ = ksk_tree l (.ref q) rev) → Q ws s') → wpAny (model X.prog X.w) X.A (evalAll ((backToKw pos (keywordEach rest X.env)).map (·.2))) Q X.xe s
theorem kw_none : KwRest X [] false [] := ⟨fun pos pins s σ H Q I h => wpAny_evalAll_nil (h [] s I fun q l => ⟨ksk_s1 _ _, ksk_l1 _ _, ksk_t1 _ _⟩)⟩
theorem kw_rev {j} : KwRest X [⟨some "reverse", .Constant (.bool true) j tpos, kpos2⟩] true [Str.ofString "reverse"] := by
  refine ⟨fun pos pins s σ H Q I h => ?_⟩
  have hp : PK X [⟨some "reverse", .Constant (.bool true) j tpos, kpos2⟩] _ := pk_cons pe_bl pk_nil
  refine wpAny_mono (hp.run pos pins s σ H (fun vs H' => vs = [.bl true] ∧ H' = H) I ⟨rfl, rfl⟩) (fun us s' he => ?_) fun _ _ z => z
  obtain ⟨vs, H', I', r, rfl, rfl⟩ := he
  obtain ⟨u, rfl, ru⟩ := r.one
  obtain rfl : u = Value.bool true := ru
  exact h _ s' I' fun q l => ⟨ksk_s2 _ _ _, ksk_l2 _ _ _, ksk_t2 _ _ _⟩
theorem ec_sortLam {rest : List Keyword} {rev : Bool} {ksr : List Str} (ir : Nat) (hkw : KwRest X rest rev ksr) (hm : X.mg "sorted" = none) (hv : bootBuiltins "sorted" = some (.builtin "sorted")) (hsrc : EP X W p e src) (hr : Room (k + 3) X.A) (hN : X.N.Nodup) (tb : TabB1 X)
    (HB : ∀ (f c' : Addr) (s : Shared) (H : Hp), Room k (X.A.in1.in1.deeper (lamEnv X scope s.heap.objs.size f c')) → ES (lamCx X X.A.in1.in1 X.stack s H (fun _ _ _ => False) scope f c') (fun _ _ _ _ => False) true body fk)
    (L1 : LamS1 X.env.scope scope row)
    (hbind : ∀ (c' : Addr) (pm ctv u : Value), bindArgs (PySem.W.kla_fn "<lambda>" (X.env.qual ++ "<lambda>") params body scope (cloFrom X.env.cells scope.names []) pm (.ref c') ctv) ⟨[u], []⟩ = pure [(row, u)])
    (hir : X.N[ir]? = some row := by rfl) (hq : X.env.qual ++ "<lambda>" = q0 := by rfl) (hdef : defaultsOf params X.env = ([], []) := by rfl)
    (hg : Gl X "sorted" := by rfl) (hs : starEach [e] X.env = (false, eval e X.env) :: starEach [] X.env := by rfl)
    (he : backTo pos (starEach [e] X.env) = (false, eval e X.env) :: backTo pos (starEach [] X.env) := by rfl) (hpl : (backTo pos (starEach [e] X.env)).any (·.1) = false := by rfl)
    (hall : (backToKw pos (keywordEach (⟨some "key", .Lambda params body scope lpos, kpos⟩ :: rest) X.env)).all (·.1.isSome) = true := by rfl)
    (hnone : (backToKw pos (keywordEach (⟨some "key", .Lambda params body scope lpos, kpos⟩ :: rest) X.env)).any (·.1.isNone) = false := by rfl)
    (hks : (backToKw pos (keywordEach (⟨some "key", .Lambda params body scope lpos, kpos⟩ :: rest) X.env)).filterMap (·.1) = Str.ofString "key" :: ksr := by rfl) :
    EC X W p (.Call (.Name "sorted" p0) [e] (⟨some "key", .Lambda params body scope lpos, kpos⟩ :: rest) pos) (mSortKey rev ir fk src) := by
  obtain ⟨ts, hs1, ks⟩ := hsrc
  refine ⟨fun σ H Q => ∃ F env fp, LOk X.K X.mg F H σ env fp ∧ wpE X W p F H σ fp (mSortKey rev ir fk src env) (fun c _ F' H' fp' => ∀ v, NewC X F H fp F' H' fp' v c → Q v H'), ⟨fun pins s σ H Q I h => ?_⟩, fun F H σ env fp Q L P => ⟨F, env, fp, L, P⟩⟩
  obtain ⟨F, env, fp, L, P⟩ := h
  refine wpAny_Call_Name_kw (ld_blt I hg hm hv ?_)
  have pa : PA X [e] _ := pa_cons hs1 pa_nil hs
  have hu := hr.un
  refine PyProof.Rows.callWith_kw (thn (pa.run pos pins s σ H (fun vs H1 => ∃ F1 fp1 e1 d v, vs = [v] ∧ Mv p F H fp F1 H1 fp1 ∧ LOk X.K X.mg F1 H1 σ e1 fp1 ∧ Pk X.K F1 H1 v d ∧ src env = .ok d e1) I (ks F H σ env fp _ L ?_)) fun us s1 ⟨vs, H1, I1, r1, F1, fp1, e1, d, v, hvs, m1, L1', pv, hsr⟩ => ?_) he hpl hall hnone
  · unfold mSortKey bnd at P
    cases hsr : src env with
    | ok d e1 => exact fun F' H' fp' m L' v pv => ⟨F', fp', e1, d, v, rfl, m, L', pv, rfl⟩
    | ex c e' => rw [hsr] at P; exact P
    | no => rw [hsr] at P; exact P.elim
  · subst hvs
    obtain ⟨u, rfl, ru⟩ := r1.one
    unfold mSortKey bnd at P
    rw [hsr] at P
    cases d with
    | list ds =>
      simp only at P
      split at P
      · rename_i hirl
        cases hk : keys1 ir fk ds (e1.set ir none) with
        | ok ksA eE =>
          rw [hk] at P
          simp only at P
          split at P
          · rename_i hok
            obtain ⟨l, xs, rfl, hl, dv⟩ := pv.list L1'.same
            obtain rfl : u = Value.ref l := ru
            obtain ⟨c, Pt, TB, hcode, hat⟩ := tb
            rw [hks]
            show wpAny _ _ (evalAll ((do let v ← eval (.Lambda params body scope lpos) X.env; standAt pos; pure v) :: (backToKw pos (keywordEach rest X.env)).map (·.2))) _ _ s1
            refine wpAny_evalAll_cons (wpAny_bind (lam_make1 I1 TB hcode hq (L1'.tab Pt hat) hdef (LamS1.has L1 I1.ok) fun f c' pm ctv G t Md => wpAny_bind (wpAny_standAt (wpAny_pure ?_))))
            have LG : LOk X.K X.mg F1 G σ e1 fp1 := L1'.ext (Same.refl _) (fun a o e => Md.ext a o (L1'.same a o e) (L1'.ntf a o e)) (fun a o _ e nt => Md.ext a o e nt) (fun a u => (L1'.free u).1) (fun P' h' => by rw [← hat.uniq h']; exact Md.tab) L1'.ntf
            have mG : Mv true F1 H1 fp1 F1 G fp1 := ⟨Same.refl _, fun a o e nt _ => Md.ext a o e nt, fun _ _ e => .inl e, fun _ u => .inl u, Md.dom⟩
            refine hkw.run pos _ t σ G _ (Md.inv.pinF Md.obj rfl Md.unt Md.nofs) fun ws t2 I2 hargs => ?_
            refine sortLam_core (k := k) (rev := rev) I2 LG (SqL_ext Md.ext hl) dv Md.code hr (by omega) hN hir L1 hq (hbind c' pm ctv) (HB f c') (hargs f l).1 (fun x => (hargs f x).2.1) (fun x => (hargs f x).2.2) hk hok fun F' H' fp' m' L' v n => ?_
            have mm : Mv p F1 H1 fp1 F' H' fp' := (mG.trans m').weak
            exact P F' H' fp' (m1.trans mm) L' v ((n.from (p := p) (m1.trans mG.weak)))
          · exact P.elim
        | ex _ _ => rw [hk] at P; exact P.elim
        | no => rw [hk] at P; exact P.elim
      · exact P.elim
    | _ => exact P.elim
end
end DL

set_option Elab.async false
set_option linter.all false
set_option maxRecDepth 100000
set_option maxHeartbeats 4000000
/-! DL, part ta: what kind of exception it is (a def that asks it, called where the exception is handled). -/
namespace DL
open PySem PySem.Spec L2
section
variable {X : Cx} {a D : Addr} {oe : Obj}
theorem call_isP (C : ExcC X.K D) (hz : Zc (.ref D) none oe) (hf : ∃ vs, oe.data = .fields vs) (hp : (a, oe) ∈ X.pn) : CallR X (.builtin "isinstance") (rIsE X.K D a) := by
  rintro pins s σ H xs us Q I r ⟨c, cv, b, rfl, hcv, e, q⟩
  cases r with
  | cons r1 r2 =>
    cases r2 with
    | cons r2 r3 =>
      cases r3
      cases r1
      obtain rfl := hcv _ r2
      have hg := (I.pin (a, oe) (List.mem_append_left _ hp)).1
      have J : PySem.W.InstAt s.heap a oe D none := by
        obtain ⟨vs, hv⟩ := hf
        cases oe with
        | mk oc od oda osl =>
          obtain ⟨rfl, rfl⟩ := (show oc = .ref D ∧ od = none from hz)
          obtain rfl := (show oda = .fields vs from hv)
          exact ⟨hg, rfl, rfl, trivial⟩
      refine PySem.W.kia_one (PySem.W.handS_kitx_exc C.hg C.hk C.hs C.hd C.ha C.hn C.ht C.hm) I.kIn J e (fun z => nomatch z) fun tk => ?_
      exact ⟨.bl b, H, I.kept (t' := tk) fun _ _ z => z, rfl, q⟩
/-- isinstance(e, c) -/
def tIs (i : Nat) (a : Addr) (b : Bool) : TE := fun σ H Q => σ[i]? = some (some (.ref a)) ∧ Q (.bl b) H
theorem pe_isC {i : Nat} {x c : Str} {p0 p1 p2 pos : Pos} {b : Bool} {C : Addr} (E : ExcC X.K D) (hz : Zc (.ref D) none oe) (hf : ∃ vs, oe.data = .fields vs) (hp : (a, oe) ∈ X.pn) (hm : X.mg "isinstance" = none) (hmc : X.mg c = some (.ref C)) (hk : PySem.W.kitOne X.K (.ref D) (.ref C) = some b)
    (hN : X.N[i]? = some x) (hvx : Vis X.env.scope x) (hd : (x == ("__debug__" : Str)) = false) (hcd : (x == ("__classdict__" : Str)) = false) (hdc : (c == ("__debug__" : Str)) = false) (hg : Gl X "isinstance") (hgc : Gl X c)
    (hs : starEach [.Name x p1, .Name c p2] X.env = (false, eval (.Name x p1) X.env) :: starEach [.Name c p2] X.env := by rfl) (hs2 : starEach [.Name c p2] X.env = (false, eval (.Name c p2) X.env) :: starEach [] X.env := by rfl) (hpl : (backTo pos (starEach [.Name c p2] X.env)).any (·.1) = false := by rfl) :
    PE X (.Call (.Name "isinstance" p0) [.Name x p1, .Name c p2] [] pos) (tIs i a b) := by
  have h := pe_callB (p := p0) (pos := pos) (call_isP E hz hf hp) hg hm (by first | rfl | kernel_rfl) (pa_cons (pe_var hN hvx hd hcd) (pa_cons (pe_glob (v := .ref C) hgc hmc rfl hdc) pa_nil hs2) hs) (by decide) (by decide) hs hpl
  exact ⟨fun pins s σ H Q I ⟨h1, h2⟩ => h.run pins s σ H Q I ⟨_, h1, .ref C, .ref C, b, rfl, (fun u r => by cases r; rfl), hk, h2⟩⟩
theorem pe_isV {i : Nat} {x : Str} {p0 p1 p2 pos : Pos} {b : Bool} (E : ExcC X.K D) (hz : Zc (.ref D) none oe) (hf : ∃ vs, oe.data = .fields vs) (hp : (a, oe) ∈ X.pn) (hm : X.mg "isinstance" = none) (hmc : X.mg "ValueError" = none) (hk : PySem.W.kitOne X.K (.ref D) (.type "ValueError") = some b)
    (hN : X.N[i]? = some x) (hvx : Vis X.env.scope x) (hd : (x == ("__debug__" : Str)) = false) (hcd : (x == ("__classdict__" : Str)) = false) (hg : Gl X "isinstance") (hgc : Gl X "ValueError")
    (hs : starEach [.Name x p1, .Name "ValueError" p2] X.env = (false, eval (.Name x p1) X.env) :: starEach [.Name "ValueError" p2] X.env := by rfl) (hs2 : starEach [.Name "ValueError" p2] X.env = (false, eval (.Name "ValueError" p2) X.env) :: starEach [] X.env := by rfl) (hpl : (backTo pos (starEach [.Name "ValueError" p2] X.env)).any (·.1) = false := by rfl) :
    PE X (.Call (.Name "isinstance" p0) [.Name x p1, .Name "ValueError" p2] [] pos) (tIs i a b) := by
  have h := pe_callB (p := p0) (pos := pos) (call_isP E hz hf hp) hg hm (by first | rfl | kernel_rfl) (pa_cons (pe_var hN hvx hd hcd) (pa_cons (pe_bltn (v := .ty "ValueError") hgc hmc (by first | rfl | kernel_rfl) rfl (by decide) (by decide)) pa_nil hs2) hs) (by decide) (by decide) hs hpl
  exact ⟨fun pins s σ H Q I ⟨h1, h2⟩ => h.run pins s σ H Q I ⟨_, h1, .ty "ValueError", .type "ValueError", b, rfl, (fun u r => by cases r; rfl), hk, h2⟩⟩
end
end DL

set_option Elab.async false
set_option linter.all false
set_option maxRecDepth 100000
set_option maxHeartbeats 4000000
/-! DL, part tb: the laws' def that tells what kinds an exception is. -/
namespace DL
open PySem PySem.Spec L2
def kinL : List Str := ["NoName", "NoFrame", "NoRow", "TooMany", "NoText", "NoVersion", "NothingLeft"]
def kinB (c : Str) : List Bool := kinL.map (fun n => decide (c = n)) ++ [true]
/-- what is known of the class c, at D -/
structure KinF (K : PySem.W.Frag) (mg : Str → Option Value) (c : Str) (D : Addr) : Prop where
  at_ : mg c = some (.ref D)
  ec : ExcC K D
  ve : PySem.W.kitOne K (.ref D) (.type "ValueError") = some true
  ks : ∀ n ∈ kinL, ∃ C, mg n = some (.ref C) ∧ PySem.W.kitOne K (.ref D) (.ref C) = some (decide (c = n))
  se : ∃ S, mg "SashError" = some (.ref S) ∧ PySem.W.exmOne K (.ref D) (.ref S) = some true
structure KinAll (K : PySem.W.Frag) (mg : Str → Option Value) : Prop where
  c : ∀ c ∈ kinL, ∃ D, KinF K mg c D
  i : mg "isinstance" = none
  v : mg "ValueError" = none
/-- the def's names -/
structure KinS (scope : Scope) : Prop where
  e : scope.names.lookup ("e" : Str) = some .local
  kin : scope.names.lookup ("kin" : Str) = some .local
  isi : scope.names.lookup ("isinstance" : Str) = some .globalImplicit
  ve : scope.names.lookup ("ValueError" : Str) = some .globalImplicit
  g : ∀ n ∈ kinL, scope.names.lookup n = some .globalImplicit
  fs : FnScope ["e", "kin"] ["e"] scope
abbrev isCall (p0 p1 p2 p3 : Pos) (c : Str) : Expr := .Call (.Name "isinstance" p0) [.Name "e" p1, .Name c p2] [] p3
theorem kin_body {Z : Cx} {a D : Addr} {oe : Obj} {c : Str} {H : Hp} {Q : VK} (hN : Z.N = [("e" : Str), ("kin" : Str)]) (S : KinS Z.env.scope) (KF : KinF Z.K Z.mg c D) (hi : Z.mg "isinstance" = none) (hV : Z.mg "ValueError" = none) (hz : Zc (.ref D) none oe) (hf : ∃ vs, oe.data = .fields vs) (hp : (a, oe) ∈ Z.pn)
    (hQ : ∀ (H' : Hp) (p : Addr), Same H H' → H p = none → H' p = some (.lst ((kinB c).map .bl)) → Q (.ref p) H')
    {a0 a1 a2 a3 b0 b1 b2 b3 c0 c1 c2 c3 d0 d1 d2 d3 e0 e1 e2 e3 f0 f1 f2 f3 g0 g1 g2 g3 h0 h1 h2 h3 l1 l2 l3 k1 k2 k3 s1 s2 s3 o2 o3 t2 : Pos}
    (w1 : swapsWith (.List [isCall a0 a1 a2 a3 "NoName", isCall b0 b1 b2 b3 "NoFrame", isCall c0 c1 c2 c3 "NoRow", isCall d0 d1 d2 d3 "TooMany"] l1) (some (.Name "kin" k1)) s1.line Z.env = pure false)
    (w2 : swapsWith (.BinOp (.Name "kin" t2) .Add (.List [isCall e0 e1 e2 e3 "NoText", isCall f0 f1 f2 f3 "NoVersion", isCall g0 g1 g2 g3 "NothingLeft"] l2) o2) (some (.Name "kin" k2)) s2.line Z.env = pure false) :
    ∃ t, PSs Z [.Assign [.Name "kin" k1] (.List [isCall a0 a1 a2 a3 "NoName", isCall b0 b1 b2 b3 "NoFrame", isCall c0 c1 c2 c3 "NoRow", isCall d0 d1 d2 d3 "TooMany"] l1) s1,
      .Assign [.Name "kin" k2] (.BinOp (.Name "kin" t2) .Add (.List [isCall e0 e1 e2 e3 "NoText", isCall f0 f1 f2 f3 "NoVersion", isCall g0 g1 g2 g3 "NothingLeft"] l2) o2) s2,
      .Return (some (.BinOp (.Name "kin" k3) .Add (.List [isCall h0 h1 h2 h3 "ValueError"] l3) o3)) s3] t ∧ t { nx := fun _ H' => Q .non H', rt := Q } [some (.ref a), none] H := by
  have n0 : Z.N[0]? = some ("e" : Str) := by rw [hN]; rfl
  have n1 : Z.N[1]? = some ("kin" : Str) := by rw [hN]; rfl
  have nd : Z.N.Nodup := by rw [hN]; decide
  have ve : Vis Z.env.scope "e" := .inl S.e
  have vk : Vis Z.env.scope "kin" := .inl S.kin
  have lk : Loc Z.env.scope "kin" := .inl S.kin
  have gi : Gl Z "isinstance" := S.isi
  have one : ∀ n, n ∈ kinL → (n == ("__debug__" : Str)) = false → ∀ p0 p1 p2 p3 : Pos, PE Z (isCall p0 p1 p2 p3 n) (tIs 0 a (decide (c = n))) := fun n hn hdn p0 p1 p2 p3 => by
    obtain ⟨C, m1, m2⟩ := KF.ks n hn
    exact pe_isC KF.ec hz hf hp hi m1 m2 n0 ve (by decide) (by decide) hdn gi (S.g n hn)
  have vE : ∀ p0 p1 p2 p3 : Pos, PE Z (isCall p0 p1 p2 p3 "ValueError") (tIs 0 a true) := fun p0 p1 p2 p3 => pe_isV KF.ec hz hf hp hi hV KF.ve n0 ve (by decide) (by decide) gi S.ve
  have m : ∀ n, n ∈ kinL → n ∈ kinL := fun _ h => h
  refine ⟨_, pss_cons (ps_set nd n1 lk (pe_lst (pa_cons (one "NoName" (by decide) (by decide) a0 a1 a2 a3) (pa_cons (one "NoFrame" (by decide) (by decide) b0 b1 b2 b3) (pa_cons (one "NoRow" (by decide) (by decide) c0 c1 c2 c3) (pa_cons (one "TooMany" (by decide) (by decide) d0 d1 d2 d3) pa_nil))))) w1 (.inr S.kin))
    (pss_cons (ps_set nd n1 lk (pe_op op_cat (pe_var n1 vk (by decide) (by decide)) (pe_lst (pa_cons (one "NoText" (by decide) (by decide) e0 e1 e2 e3) (pa_cons (one "NoVersion" (by decide) (by decide) f0 f1 f2 f3) (pa_cons (one "NothingLeft" (by decide) (by decide) g0 g1 g2 g3) pa_nil))))) w2 (.inr S.kin))
    (pss_one (ps_ret (pe_op op_cat (pe_var n1 vk (by decide) (by decide)) (pe_lst (pa_cons (vE h0 h1 h2 h3) pa_nil)))))), ?_⟩
  refine ⟨rfl, rfl, rfl, rfl, by rw [sizeLine_eq]; simp, fun q1 hq1 => ?_⟩
  refine ⟨.ref q1, rfl, rfl, rfl, rfl, by rw [sizeLine_eq]; simp, fun q2 hq2 => ?_⟩
  have n21 : q1 ≠ q2 := fun z => by subst z; rw [upd_same] at hq2; cases hq2
  refine ⟨q1, q2, _, _, rfl, rfl, by rw [upd_ne n21, upd_same], upd_same, by rw [sizeLine_eq]; simp, fun q3 hq3 => ?_⟩
  refine ⟨.ref q3, rfl, rfl, by rw [sizeLine_eq]; simp, fun q4 hq4 => ?_⟩
  have n43 : q3 ≠ q4 := fun z => by subst z; rw [upd_same] at hq4; cases hq4
  refine ⟨q3, q4, _, _, rfl, rfl, by rw [upd_ne n43, upd_same], upd_same, by rw [sizeLine_eq]; simp, fun q5 hq5 => ?_⟩
  have st : ∀ (H1 : Hp) (q : Addr) (o : HO), H1 q = none → Same H1 (upd H1 q o) := fun H1 q o h b u e => by rw [upd_ne (ne_of_none e h)]; exact e
  refine hQ _ q5 ?_ (dom_upd _ (dom_upd _ (dom_upd _ (dom_upd _ hq5)))) upd_same
  exact ((((st _ _ _ hq1).trans (st _ _ _ hq2)).trans (st _ _ _ hq3)).trans (st _ _ _ hq4)).trans (st _ _ _ hq5)
end DL

set_option Elab.async false
set_option linter.all false
set_option maxRecDepth 100000
set_option maxHeartbeats 4000000
/-! DL, part tc: try .. except SashError as e: kin = _law_a_kin(e). -/
namespace DL
open PySem PySem.Spec L2
def sTry (ik ie : Nat) (f : ST) : ST := fun e => match f e with
  | .ex c e' => if c ∈ kinL ∧ ik < e'.length ∧ ie < e'.length ∧ ik ≠ ie then .nx ((e'.set ik (some (.ow ((kinB c).map .bool)))).set ie none) else .no
  | r => r
section
variable {K : PySem.W.Frag} {mg : Str → Option Value} {F H : Hp} {σ σ2 : L2.St} {env : LE} {fp : FP}
theorem LOk.away {i : Nat} (L : LOk K mg F H σ env fp) (h : ∀ j, j ≠ i → σ2[j]? = σ[j]?) (hl : σ2.length = σ.length) : LOk K mg F H σ2 (env.set i none) (fpSet fp i []) := by
  refine ⟨L.same, fun j c q => ?_, fun j q => ?_, fun j k a hjk hj hk => ?_, by rw [List.length_set, hl]; exact L.len, L.tab, L.ntf⟩
  · by_cases e : j = i
    · subst e
      have hlt := lt_of_get q
      rw [List.length_set] at hlt
      rw [List.getElem?_set_self hlt] at q; cases q
    · rw [List.getElem?_set_ne (Ne.symm e)] at q
      obtain ⟨w, h1, h2⟩ := L.slot j c q
      exact ⟨w, by rw [h j e]; exact h1, by rw [fpSet_ne e]; exact h2⟩
  · by_cases e : j = i
    · subst e; exact fpSet_same
    · rw [fpSet_ne e]
      exact L.emp j fun c z => q c (by rw [List.getElem?_set_ne (Ne.symm e)]; exact z)
  · by_cases e : j = i
    · subst e; rw [fpSet_same] at hj; cases hj
    · rw [fpSet_ne e] at hj
      by_cases e2 : k = i
      · subst e2; rw [fpSet_same] at hk; cases hk
      · rw [fpSet_ne e2] at hk; exact L.dis j k a hjk hj hk
theorem dqBools (bs : List Bool) : DqAll K F (bs.map V.bl) (bs.map PyData.bool) := by
  induction bs with
  | nil => exact .nil
  | cons b bs ih => exact .cons (.bl b) ih
end
/-- the def, as the pattern of its text -/
abbrev KinBody (body : List Stmt) : Prop := ∀ (Z : Cx) (a D : Addr) (oe : Obj) (c : Str) (H : Hp) (Q : VK), Z.N = [("e" : Str), ("kin" : Str)] → KinS Z.env.scope → KinF Z.K Z.mg c D → Z.mg "isinstance" = none → Z.mg "ValueError" = none → Zc (.ref D) none oe → (∃ vs, oe.data = .fields vs) → (a, oe) ∈ Z.pn →
  (∀ (H' : Hp) (p : Addr), Same H H' → H p = none → H' p = some (.lst ((kinB c).map .bl)) → Q (.ref p) H') → ∃ t, PSs Z body t ∧ t { nx := fun _ H' => Q .non H', rt := Q } [some (.ref a), none] H
section
variable {X : Cx} {W : WX} {ro : List Nat} {p : Bool} {body kbody : List Stmt} {pos pos' : Pos}
theorem pe_kin {Y : Cx} {a : Addr} {oe : Obj} {c : Str} {D : Addr} {ie : Nat} {f : Addr} {fd : FuncData} {params : Arguments} {scope : Scope} {q ep cp : Pos} (KB : KinBody kbody) (Fd : FunD Y.K "_law_a_kin" "_law_a_kin" params kbody scope [] [] f fd) (S : KinS scope) (hb : Binds Y.K fd ["e"] []) (KF : KinF Y.K Y.mg c D)
    (hi : Y.mg "isinstance" = none) (hV : Y.mg "ValueError" = none) (hz : Zc (.ref D) none oe) (hf : ∃ vs, oe.data = .fields vs) (hp : (a, oe) ∈ Y.pn) (hm : Y.mg "_law_a_kin" = some (.ref f)) (hr : Y.A.depth < recursionLimit) (hg : Gl Y "_law_a_kin") (hN : Y.N[ie]? = some ("e" : Str)) (hv : Vis Y.env.scope "e")
    (hs : starEach [.Name "e" ep] Y.env = (false, eval (.Name "e" ep) Y.env) :: starEach [] Y.env := by rfl) (hpl : (backTo cp (starEach [] Y.env)).any (·.1) = false := by rfl) :
    PE Y (.Call (.Name "_law_a_kin" q) [.Name "e" ep] [] cp) (fun σ H Q => σ[ie]? = some (some (.ref a)) ∧ ∀ (H' : Hp) (p : Addr), Same H H' → H p = none → H' p = some (.lst ((kinB c).map .bl)) → Q (.ref p) H') := by
  refine ⟨fun pins s σ H Q I ⟨h1, h2⟩ => ?_⟩
  refine wpAny_Call_Name_kw (ld_glob I hg hm ?_ (by decide))
  have pa : PA Y [.Name "e" ep] _ := pa_cons (pe_var hN hv (by decide) (by decide)) pa_nil hs
  refine PySem.W.callWith_K (h₀ := Y.base) I.ok.mod.kin Fd.kp (thn (pa.run cp pins s σ H (fun vs H' => vs = [.ref a] ∧ H' = H) I ⟨_, h1, rfl, rfl⟩) fun us s1 ⟨vs, H1, I1, r, ev, eH⟩ => ⟨I1.kIn, ?_⟩) hs hpl
  subst ev
  subst eH
  obtain ⟨oc, od, dV, kV, doc, pm, an, cdv, ct, osl, rfl, lk, hcd, _, _⟩ := Fd.ex
  have hul := r.length
  have bnd := hb s1 us I1.kIn (by rw [List.append_nil]; exact hul.symm)
  rw [List.append_nil] at bnd
  have P1 := I1.pin (a, oe) (List.mem_append_left _ hp)
  have hpin : L2H.PinOk Y.stack H1 s1 (a, oe) := ⟨P1.1, P1.2.1, fun hx => (List.mem_cons.mp (I1.stkSub a hx)).elim P1.2.2.1 P1.2.2.2.1, P1.2.2.2.2⟩
  have e0 := I1.env0
  have KX : Y.K.In s1.heap := I1.kIn
  have rc : codeAny (model Y.prog Y.w) Y.A (.call (.ref f) ⟨us, []⟩) (CR (L2.CX Y.prog Y.w) Y.stack Y.prog Y.w H1 s1 Q (fun _ _ _ => False)) s1 := by
    refine codeAny_call_function hr (KX _ _ lk) rfl S.fs.co S.fs.gen rfl (PySem.W.codeRec_of KX hcd) (bnd _ _ _ _ ?_)
    refine wpAny_newFunctionEnv_cells S.fs.kind (fun y hy => .inl ?_) fun env he s2 x => ?_
    · have : y.1 = ("e" : Str) := by
        obtain ⟨n, v⟩ := y
        have := (List.of_mem_zip hy).1
        simpa using this
      rw [this]; exact S.e
    subst he
    refine ⟨I1.nolimit.keeps x.toInCall.keep, codeAny_func ?_⟩
    have J := L2H.inv_startH (CX := L2.CX Y.prog Y.w) (E := fun _ _ _ => False) (cd := cdv) (f := f) (qual := "_law_a_kin") S.fs hpin e0 (by rfl) r x
    obtain ⟨t, pt, ht⟩ := KB (L2H.cxH (L2.CX Y.prog Y.w) Y.prog Y.w Y.K Y.mg Y.base ["e", "kin"] "_law_a_kin" scope f cdv Y.A Y.stack s1 H1 (fun _ _ _ => False) (a, oe)) a D oe c H1 Q rfl S KF hi hV hz hf (by exact List.mem_cons_self ..) h2
    refine wpAny_mono (pt.run [] s2 _ H1 _ J ht) (fun fl s' hs => ?_) fun e s' z => z
    cases fl with
    | ret u =>
      obtain ⟨v, σ', H', J', rv, qq⟩ := hs
      exact ⟨v, H', J'.os, J'.bare, J'.base, J'.hok, rv, qq⟩
    | next =>
      obtain ⟨σ', H', J', qq⟩ := hs
      exact ⟨.non, H', J'.os, J'.bare, J'.base, J'.hok, rfl, qq⟩
    | brk =>
      obtain ⟨_, _, _, z⟩ := hs
      exact z.elim
    | cont =>
      obtain ⟨_, _, _, z⟩ := hs
      exact z.elim
  refine wpAny_call (codeAny_mono rc fun r' s' hq => ?_)
  cases r' with
  | error e =>
    obtain ⟨_, _, _, _, _, _, _, _, _, _, _, _, z⟩ := hq
    exact z.elim
  | ok fl =>
    cases fl with
    | ret u => exact I1.after hq
    | next => exact False.elim hq
    | brk => exact False.elim hq
    | cont => exact False.elim hq
end
end DL


set_option Elab.async false
set_option linter.all false
set_option maxRecDepth 100000
set_option maxHeartbeats 4000000
/-! DL, part td: the try statement. -/
namespace DL
open PySem PySem.Spec L2
section
variable {X : Cx} {W : WX} {ro : List Nat} {body kbody : List Stmt} {pos pos' : Pos}
theorem step_try {K : PySem.W.Frag} {mg : Str → Option Value} {F H H2 : Hp} {σ : L2.St} {env : LE} {fp : FP} {a p : Addr} {bs : List Bool} {ik ie : Nat} (L : LOk K mg F H σ env fp) (h1 : ik < env.length) (h2 : ie < env.length) (ne : ik ≠ ie)
    (sm : Same H H2) (hp : H p = none) (hl : H2 p = some (.lst (bs.map .bl))) :
    LOk K mg F H2 (((σ.set ie (some (.ref a))).set ik (some (.ref p))).set ie none) ((env.set ik (some (.ow (bs.map .bool)))).set ie none) (fpSet (fpSet fp ik [p]) ie []) ∧
    Mv false F H fp F H2 (fpSet (fpSet fp ik [p]) ie []) := by
  have fn : F p = none := by
    cases e : F p with
    | none => rfl
    | some o => rw [L.same _ _ e] at hp; cases hp
  have nu : ¬ U fp p := fun u => by
    obtain ⟨_, o, e, _⟩ := L.free u
    rw [e] at hp; cases hp
  have L2 : LOk K mg F H2 σ env fp := L.ext (Same.refl _) (L.same.trans sm) (fun b o _ e _ => sm b o e) (fun b u => (L.free u).1) (L.tab.step (.same sm)) L.ntf
  have L3 := L2.set (i := ik) (v := .ref p) (c := .ow (bs.map .bool)) (l := [p]) h1 (.ow fn hl (dqBools bs)) fun b hb j _ q => by
    rw [List.mem_singleton] at hb
    subst hb
    exact nu ⟨j, q⟩
  have L4 := L3.away (i := ie) (σ2 := ((σ.set ie (some (.ref a))).set ik (some (.ref p))).set ie none) (fun j hj => by
    rw [List.getElem?_set_ne (Ne.symm hj)]
    by_cases e : j = ik
    · subst e
      rw [List.getElem?_set_self (by rw [List.length_set, L.len]; exact h1), List.getElem?_set_self (by rw [L.len]; exact h1)]
    · rw [List.getElem?_set_ne (Ne.symm e), List.getElem?_set_ne (Ne.symm hj), List.getElem?_set_ne (Ne.symm e)]) (by simp)
  refine ⟨L4, Same.refl _, fun b o e _ _ => sm b o e, fun b o e => .inl e, fun b u => ?_, fun b e => ?_⟩
  · rcases U_fpSet u with z | ⟨j, _, z⟩
    · cases z
    · rcases U_fpSet (fp := fp) (i := ik) (l := [p]) ⟨j, z⟩ with y | ⟨j, _, y⟩
      · rw [List.mem_singleton] at y
        subst y; exact .inr hp
      · exact .inl ⟨j, y⟩
  · cases e1 : H b with
    | none => rfl
    | some o => rw [sm b o e1] at e; cases e
theorem sj_try {ik ie : Nat} {f : ST} {fa : Addr} {fd : FuncData} {params : Arguments} {scope : Scope} {np kp q ep cp ap : Pos} (KA : KinAll X.K X.mg) (KB : KinBody kbody) (Fd : FunD X.K "_law_a_kin" "_law_a_kin" params kbody scope [] [] fa fd) (S : KinS scope) (hb : Binds X.K fd ["e"] [])
    (hm : X.mg "_law_a_kin" = some (.ref fa)) (hN : X.N.Nodup) (hr : X.A.depth < recursionLimit) (tk : Takes X W)
    (hbody : ∀ (W : WX) (pn : List (Addr × Obj)) (xe : Value → Shared → Prop), Takes (X.tr pn xe) W → PassesOwn (model X.prog X.w) X.A X.env xe → SJs (X.tr pn xe) W ro body f)
    (hik : X.N[ik]? = some ("kin" : Str) := by rfl) (hie : X.N[ie]? = some ("e" : Str) := by rfl) (hlk : X.env.scope.names.lookup ("kin" : Str) = some .local := by rfl) (hle : X.env.kindOf ("e" : Str) = some .local := by rfl)
    (hve : X.env.scope.names.lookup ("e" : Str) = some .local := by rfl)
    (hgs : Gl X "SashError" := by rfl) (hgk : Gl X "_law_a_kin" := by rfl) (hstk : X.stack = X.env :: X.outer := by rfl) (hfr : X.env.frame = some X.env.locals := by rfl) (hrk : ik ∉ ro := by decide) (hre : ie ∉ ro := by decide)
    (hs1 : starEach [.Name "e" ep] X.env = (false, eval (.Name "e" ep) X.env) :: starEach [] X.env := by rfl) (hpl : (backTo cp (starEach [] X.env)).any (·.1) = false := by rfl)
    (hsw : swapsWith (.Call (.Name "_law_a_kin" q) [.Name "e" ep] [] cp) (some (.Name "kin" kp)) ap.line X.env = pure false := by rfl) :
    SJ X W ro (.Try body [.ExceptHandler (some (.Name "SashError" np)) (some "e") [.Assign [.Name "kin" kp] (.Call (.Name "_law_a_kin" q) [.Name "e" ep] [] cp) ap] pos'] [] [] pos) (sTry ik ie f) := by
  have hse : ∃ Se, X.mg "SashError" = some (.ref Se) := by
    obtain ⟨D, k⟩ := KA.c "NoName" (by decide)
    obtain ⟨Se, h, _⟩ := k.se
    exact ⟨Se, h⟩
  obtain ⟨Se, hse⟩ := hse
  refine ⟨_, ps_try_as (tb := fun W N σ H => ∃ (F : Hp) (env : LE) (fp : FP), LOk X.K X.mg F H σ env fp ∧ wpS X W ro F H σ fp N (f env)) (Wout := W) (c := .ref Se) (i := ie)
    (ts := fun a cls d D σ H => (d = none ∧ ∃ c, c ∈ kinL ∧ X.mg c = some cls) ∧ σ[ie]? = some (some (.ref a)) ∧ ∀ (H' : Hp) (p : Addr) (c : Str), c ∈ kinL → X.mg c = some cls → Same H H' → H p = none → H' p = some (.lst ((kinB c).map .bl)) → D.nx (σ.set ik (some (.ref p))) H')
    hstk hfr hN hie hle ⟨hgs, by decide, .inl hse⟩ tk (fun W2 pn xe tk2 hp2 => ?_) (fun a oe cls d pn hz hf => ?_), fun F H σ env fp N L P => ⟨F, env, fp, L, ?_⟩⟩
  · obtain ⟨t, ht, kt⟩ := hbody W2 pn xe tk2 hp2
    exact ⟨fun pins s σ H D I ⟨F, env, fp, L, P⟩ => ht.run pins s σ H D I (kt F H σ env fp D L P)⟩
  · refine ⟨fun pins s σ H D I ⟨⟨dn, c, hc, mc⟩, h1, h2⟩ => ?_⟩
    subst dn
    obtain ⟨Dc, KF⟩ := KA.c c hc
    have e := KF.at_
    rw [mc] at e
    cases e
    refine (pss_one (ps_set (X := X.suite a ((a, oe) :: pn)) hN hik (.inl hlk) (pe_kin (Y := X.suite a ((a, oe) :: pn)) KB Fd S hb KF KA.i KA.v hz hf (List.mem_cons_self ..) hm hr hgk hie (.inl hve) hs1 hpl) hsw (.inr hlk))).run pins s σ H D I ?_
    exact ⟨h1, fun H' p sm hp hl => h2 H' p c hc mc sm hp hl⟩
  · unfold sTry at P
    cases e : f env with
    | nx e' => rw [e] at P; exact P
    | rt c e' => rw [e] at P; exact P
    | bk e' => rw [e] at P; exact P
    | ct e' => rw [e] at P; exact P
    | no => rw [e] at P; exact P.elim
    | ex c e' =>
      rw [e] at P
      simp only at P
      split at P
      case isFalse => exact P.elim
      rename_i hc
      obtain ⟨hc, l1, l2, ne⟩ := hc
      intro C σ' F' H' fp' mc m L' r'
      obtain ⟨Dc, KF⟩ := KA.c c hc
      have e2 := KF.at_
      rw [mc] at e2
      cases e2
      obtain ⟨Se', s1, s2⟩ := KF.se
      rw [hse] at s1
      cases s1
      refine ⟨true, s2, fun _ a ha => ⟨⟨rfl, c, hc, mc⟩, List.getElem?_set_self (by rw [L'.len]; exact l2), fun H2 p c2 hc2 mc2 sm hp hl => ?_⟩, fun z => nomatch z⟩
      have : c2 = c := by
        obtain ⟨D2, K2⟩ := KA.c c2 hc2
        obtain ⟨C1, x1, x2⟩ := KF.ks c2 hc2
        obtain ⟨C3, y1, y2⟩ := KF.ks c hc
        rw [mc2] at x1
        cases x1
        rw [mc] at y1
        cases y1
        rw [x2] at y2
        simp only [Option.some.injEq, decide_eq_decide] at y2
        first | exact y2.symm | exact (y2.mpr trivial).symm | exact (y2.mpr trivial)
      subst this
      obtain ⟨L4, m4⟩ := step_try (a := a) L' l1 l2 ne sm hp hl
      refine P _ _ _ _ (m.trans m4) L4 (r'.trans fun j hj => ?_)
      rw [List.getElem?_set_ne (fun z => hre (by rw [z]; exact hj)), List.getElem?_set_ne (fun z => hrk (by rw [z]; exact hj)), List.getElem?_set_ne (fun z => hre (by rw [z]; exact hj))]
end
end DL
namespace DL
open PySem PySem.Spec L2
theorem roomDp {k : Nat} {A : Around} (r : Room k A) : A.depth < recursionLimit := by have := r.dp; omega
end DL

set_option Elab.async false
set_option linter.all false
set_option maxRecDepth 100000
set_option maxHeartbeats 4000000
/-! DL, part te: the head's facts on the exceptions' classes. -/
namespace DL
open PySem PySem.Spec L2
def excB (K : PySem.W.Frag) (D : Addr) : Bool := He.eqO (PySem.W.findIn K (.ref D) "__getattribute__") (some (some (.builtin "BaseException.__getattribute__"))) && (He.eqO (PySem.W.findIn K (.ref D) "__getattr__") (some none) && (decide (PySem.W.subIn K (.ref D) (.type "BaseException") = some true) &&
  (PySem.W.hasDictIn K D && (He.eqO (PySem.W.findIn K (.ref D) "__class__") (some (some (.builtin "object.__class__"))) && (He.eqO (PySem.W.specialIn K (.builtin "object.__class__") "__get__") (some (some (.builtin "getset_descriptor.__get__"))) &&
  (decide (PySem.W.takesIn K (.builtin "object.__class__") = some true) && decide (PySem.W.mroIn K D (.type "object") = some true)))))))
theorem excB_ok {K : PySem.W.Frag} {D : Addr} (h : excB K D = true) : ExcC K D := by
  unfold excB at h
  simp only [Bool.and_eq_true, decide_eq_true_eq] at h
  obtain ⟨h1, h2, h3, h4, h5, h6, h7, h8⟩ := h
  exact ⟨He.eqO_ok h1, He.eqO_ok h2, h3, h4, He.eqO_ok h5, He.eqO_ok h6, h7, h8⟩
def kinG1 (K : PySem.W.Frag) (c : Str) : Bool := (He.Fa.glo c).ok K && (excB K (He.ga K c) && (decide (PySem.W.kitOne K (.ref (He.ga K c)) (.type "ValueError") = some true) &&
  (kinL.all (fun n => decide (PySem.W.kitOne K (.ref (He.ga K c)) (.ref (He.ga K n)) = some (decide (c = n)))) && (He.Fa.exm c "SashError" true).ok K)))
def kinG (K : PySem.W.Frag) : Bool := kinL.all (kinG1 K) && ((He.Fa.glo "SashError").ok K && ((He.Fa.free "isinstance").ok K && (He.Fa.free "ValueError").ok K))
theorem kinG_ok {K : PySem.W.Frag} {h : Heap} {mg : Str → Option Value} (X : K.In h) (G : h.Ns mainGlobals mg) (c : kinG K = true) : KinAll K mg := by
  unfold kinG at c
  rw [Bool.and_eq_true, Bool.and_eq_true, Bool.and_eq_true, List.all_eq_true] at c
  obtain ⟨c1, c2, c3, c4⟩ := c
  have gl : ∀ n ∈ kinL, mg n = some (.ref (He.ga K n)) := fun n hn => by
    have z := c1 n hn
    unfold kinG1 at z
    rw [Bool.and_eq_true] at z
    exact He.glo_ok X G z.1
  refine ⟨fun n hn => ⟨He.ga K n, ?_⟩, He.free_ok X G c3, He.free_ok X G c4⟩
  have z := c1 n hn
  unfold kinG1 at z
  rw [Bool.and_eq_true, Bool.and_eq_true, Bool.and_eq_true, Bool.and_eq_true, List.all_eq_true] at z
  obtain ⟨z1, z2, z3, z4, z5⟩ := z
  exact ⟨gl n hn, excB_ok z2, of_decide_eq_true z3, fun m hm => ⟨_, gl m hm, of_decide_eq_true (z4 m hm)⟩, _, He.glo_ok X G c2, He.exm_ok z5⟩
end DL

set_option Elab.async false
set_option linter.all false
set_option maxRecDepth 100000
set_option maxHeartbeats 4000000
/-! DL, the end: the head's facts with constant tuples of texts and the table of `ordered`. -/
namespace DL
open PySem PySem.Spec L2 LamX
def strsV : List Value → List Str → Bool
  | [], [] => true
  | .str z _ :: vs, y :: ys => decide (z = y) && strsV vs ys
  | _, _ => false
theorem strsV_ok : ∀ {vs : List Value} {zs : List Str}, strsV vs zs = true → Vals (zs.map V.str) vs
  | [], [], _ => .nil
  | [], _ :: _, h => by simp [strsV] at h
  | v :: vs, [], h => by cases v <;> simp [strsV] at h
  | v :: vs, y :: ys, h => by
    cases v <;> simp [strsV] at h
    case str z t =>
      obtain ⟨rfl, h2⟩ := h
      exact .cons ⟨t, rfl⟩ (strsV_ok h2)
def tupO (zs : List Str) : Option Obj → Bool
  | some ⟨.type t, none, .seq vs _, _⟩ => decide (t = "tuple") && (decide (vs.size ≤ 1000) && strsV vs.toList zs)
  | _ => false
theorem tupO_ok {zs : List Str} {o : Option Obj} (h : tupO zs o = true) : ∃ ob vs n, o = some ob ∧ ob.cls = .type "tuple" ∧ ob.dict = none ∧ ob.data = .seq vs n ∧ vs.size ≤ sizeLine ∧ Vals (zs.map V.str) vs.toList := by
  unfold tupO at h
  split at h
  · rename_i t vs n sl
    simp only [Bool.and_eq_true, decide_eq_true_eq] at h
    obtain ⟨h1, h2, h3⟩ := h
    subst h1
    exact ⟨_, vs, n, rfl, rfl, rfl, rfl, by rw [sizeLine_eq]; omega, strsV_ok h3⟩
  · cases h
def tupG (K : PySem.W.Frag) (t : Str × List Str) : Bool := match PySem.W.nsIn K mainGlobals t.1 with
  | some (some (Value.ref a)) => tupO t.2 (K.lookup a)
  | _ => false
/-- a constant of the module: a tuple of texts -/
def GTup (K : PySem.W.Frag) (mg : Str → Option Value) (x : Str) (zs : List D) : Prop := ∃ a, mg x = some (.ref a) ∧ ∀ F, Dq K F (.ref a) (.tuple zs)
theorem tupG_ok {K : PySem.W.Frag} {h : Heap} {mg : Str → Option Value} {x : Str} {zs : List Str} (X : K.In h) (G : h.Ns mainGlobals mg) (c : tupG K (x, zs) = true) : GTup K mg x (zs.map .str) := by
  have c2 : (match PySem.W.nsIn K mainGlobals x with
    | some (some (Value.ref a)) => tupO zs (K.lookup a)
    | _ => false) = true := c
  cases e : PySem.W.nsIn K mainGlobals x with
  | none => rw [e] at c2; cases c2
  | some o =>
    cases o with
    | none => rw [e] at c2; cases c2
    | some v =>
      cases v with
      | ref a =>
        rw [e] at c2
        obtain ⟨ob, vs, n, h1, h2, h3, h4, h5, h6⟩ := tupO_ok c2
        exact ⟨a, PySem.W.mg_of X G e, fun F => .tup (.inr ⟨ob, vs, n, h1, h2, h4, h5, h6, h3⟩) (DqAll.strs zs)⟩
      | _ => rw [e] at c2; cases c2
theorem es_gtup {X : Cx} {W : WX} {p : Bool} {pos : Pos} {x : Str} {zs : List D} (h : GTup X.K X.mg x zs) (hg : Gl X x := by rfl) (hdb : (x == ("__debug__" : Str)) = false := by decide) : ES X W p (.Name x pos) (ret (.tuple zs)) := by
  obtain ⟨a, h1, h2⟩ := h
  exact (es_glob (v := .ref a) hg h1 rfl h2 hdb).weak
/-! ### the table -/
def tab0 : Option Obj → Bool
  | some ⟨.none, none, .fields ⟨[]⟩, ⟨[]⟩⟩ => true
  | _ => false
theorem tab0_ok {o : Option Obj} (h : tab0 o = true) : o = some { cls := .none, data := .fields #[] } := by
  unfold tab0 at h
  split at h
  · rfl
  · cases h
def codeB (P : Addr) : Option Obj → Bool
  | some ⟨.type t, _, .fields vs, _⟩ => decide (t = "code") && (match vs[11]?, vs[18]?, vs[7]?, vs[9]?, vs[10]? with
    | some (Value.ref P'), some (Value.str _ _), some (Value.int _ _), some (Value.bool _), some (Value.int _ _) => decide (P' = P)
    | _, _, _, _, _ => false)
  | _ => false
theorem getD_of {vs : Array Value} {i : Nat} {v : Value} (h : vs[i]? = some v) : vs.getD i .none = v := by
  rw [Array.getD_eq_getD_getElem?, h]; rfl
theorem codeB_ok {h : Heap} {c P : Addr} {o : Option Obj} (hb : codeB P o = true) (ho : ∀ ob, o = some ob → h.get? c = some ob) (n : c ≠ P) : PySem.W.CodeHd h c P := by
  unfold codeB at hb
  split at hb
  · rename_i t od vs sl
    simp only [Bool.and_eq_true, decide_eq_true_eq] at hb
    obtain ⟨h1, h2⟩ := hb
    subst h1
    split at h2
    · rename_i P' z t1 i t2 b j t3 e1 e2 e3 e4 e5
      have := of_decide_eq_true h2
      subst this
      exact ⟨_, vs, z, t1, i, t2, b, j, t3, ho _ rfl, rfl, rfl, e1, getD_of e1, getD_of e2, getD_of e3, getD_of e4, getD_of e5, n⟩
    · cases h2
  · cases hb
/-- the table of `ordered` is there, empty -/
def TabS0 (K : PySem.W.Frag) (h : Heap) : Prop := ∃ f c P, PySem.W.nsIn K mainGlobals "ordered" = some (some (.ref f)) ∧ codeOf K f = some c ∧ tabOf K c = some P ∧ K.lookup P = none ∧ h.get? P = some { cls := .none, data := .fields #[] } ∧ c ≠ P ∧ codeB P (K.lookup c) = true
def tabG (K : PySem.W.Frag) (g : Addr → Option Obj) : Bool := match PySem.W.nsIn K mainGlobals "ordered" with
  | some (some (Value.ref f)) => (match codeOf K f with
    | some c => (match tabOf K c with
      | some P => (K.lookup P).isNone && (tab0 (g P) && (decide (c ≠ P) && codeB P (K.lookup c)))
      | none => false)
    | none => false)
  | _ => false
theorem tabG_ok {K : PySem.W.Frag} {h : Heap} (c : tabG K h.get? = true) : TabS0 K h := by
  unfold tabG at c
  split at c
  · rename_i f e1
    split at c
    · rename_i cc e2
      split at c
      · rename_i P e3
        simp only [Bool.and_eq_true, decide_eq_true_eq, Option.isNone_iff_eq_none] at c
        exact ⟨f, cc, P, e1, e2, e3, c.1, tab0_ok c.2.1, c.2.2.1, c.2.2.2⟩
      · cases c
    · cases c
  · cases c
/-! ### the Hook -/
abbrev AlT : Type := He.AlD × Bool
/-- the head's objects, but the tables of code objects -/
def asNT (g : Addr → Option Obj) (n : Nat) : List Addr := (He.asD g n).filter fun a => !tab0 (g a)
def obsT (n : Nat) (fa : List He.Fa) (fn : List He.DefD) (ts : List (Str × List Str)) (lam kin : Bool) (g : Addr → Option Obj) : AlT := (He.obsD fa fn (He.frG g (asNT g n)), (ts.all fun t => tupG (He.frG g (asNT g n)) t) && ((!lam || tabG (He.frG g (asNT g n)) g) && (!kin || kinG (He.frG g (asNT g n)))))
structure SaysT (fa : List He.Fa) (fn : List He.DefD) (ts : List (Str × List Str)) (lam kin : Bool) (K : PySem.W.Frag) (h : Heap) : Prop where
  d : He.SaysD fa fn K
  t : ∀ t ∈ ts, tupG K t = true
  l : lam = true → TabS0 K h
  k : kin = true → kinG K = true
def hookT (n : Nat) (fa : List He.Fa) (fn : List He.DefD) (ts : List (Str × List Str)) (lam kin : Bool) : PySem.W.Hook where
  α := AlT
  obs := fun s => obsT n fa fn ts lam kin s.heap.get?
  val := fun _ => (He.valD fn, true)
  says := fun _ h => ∃ K : PySem.W.Frag, K.In h ∧ SaysT fa fn ts lam kin K h
  of := fun _ s e => by
    have e1 : He.obsD fa fn _ = He.valD fn := congrArg Prod.fst e
    have e2 : ((ts.all fun t => tupG (He.frG s.heap.get? (asNT s.heap.get? n)) t) && ((!lam || tabG (He.frG s.heap.get? (asNT s.heap.get? n)) s.heap.get?) && (!kin || kinG (He.frG s.heap.get? (asNT s.heap.get? n))))) = true := congrArg Prod.snd e
    rw [Bool.and_eq_true, Bool.and_eq_true, List.all_eq_true] at e2
    exact ⟨_, He.frG_in, e1, e2.1, fun hl => tabG_ok (by have := e2.2.1; rw [hl] at this; simpa using this), fun hl => by have := e2.2.2; rw [hl] at this; simpa using this⟩
  keeps := fun _ _ _ ⟨K, hK, c⟩ k => ⟨K, PySem.W.Frag.In.keeps hK k, c.d, c.t, fun hl => by
    obtain ⟨f, c', P, h1, h2, h3, h4, h5, h6, h7⟩ := c.l hl
    exact ⟨f, c', P, h1, h2, h3, h4, k _ _ h5, h6, h7⟩, c.k⟩
theorem obsT_eq {n : Nat} {fa : List He.Fa} {fn : List He.DefD} {ts : List (Str × List Str)} {lam kin : Bool} {g : Addr → Option Obj} {s : Shared} (h : ∀ a, g a = s.heap.get? a) : obsT n fa fn ts lam kin g = (hookT n fa fn ts lam kin).obs s := by
  have e : g = s.heap.get? := funext h
  rw [e] <;> rfl
/-! ### the table, for the walk -/
def TabT (K : PySem.W.Frag) (mg : Str → Option Value) (base : Heap) : Prop := ∃ f c P, mg "ordered" = some (.ref f) ∧ codeOf K f = some c ∧ tabOf K c = some P ∧ TabB base mg c P
theorem okDT {P : Program} {w : World} {K : PySem.W.Frag} {mg : Str → Option Value} {base : Heap} {x qual : Str} {params : Arguments} {body : List Stmt} {scope : Scope} {dvs : List V} {kws : List (Str × V)} {f : Addr} {fd : FuncData} {N ps : List Str} {k : Nat} {b : ST}
    (F : FunD K x qual params body scope dvs kws f fd) (S : FnScope N ps scope) (n : Nat) (hn : ps.length = n) (T : TabT K mg base) (hm : mg "ordered" = some (.ref f))
    (hb : ∀ (X : Cx) (W : WX) (cdv : Value) (A : Around) (outer : List Env) (s : Shared) (H : Hp) (E : XK), X = cxOf (L2.CX P w) P w K mg base N qual scope f cdv A outer s H E → Room k X.A → Takes X W → PassesOwn (model X.prog X.w) X.A X.env X.xe → TabB1 X → SJs X W [] body b) :
    FnOk P w K mg base (L2.CX P w) (k + 1) f fd ps (spD K mg n (runF N.length b)) := by
  obtain ⟨f', c, Pt, t1, t2, t3, t4⟩ := T
  have ht1 := t1
  rw [hm] at t1
  cases t1
  obtain ⟨oc, od, dV, kV, doc, pm, an, cdv, ct, osl, hfd, lk, hcd, _, _⟩ := F.ex
  have hcdv : cdv = .ref c := by
    unfold codeOf at t2
    rw [lk] at t2
    simp only at t2
    rw [hfd] at t2
    cases cdv with
    | ref c1 =>
      have z : some c1 = some c := t2
      cases z
      rfl
    | _ =>
      have z : (none : Option Addr) = some c := t2
      cases z
  subst hfd
  refine fn_of lk hcd S (fun vs H Q E h => h.1.trans hn.symm) fun A outer s H vs Q E hr h => ?_
  have tk : Takes (cxOf (L2.CX P w) P w K mg base N qual scope f cdv A outer s H E) (fun cls d _ H => E cls d H) := takes_of rfl rfl rfl rfl
  obtain ⟨t, ht, kt⟩ := hb _ (fun cls d _ H => E cls d H) cdv A outer s H E rfl hr tk (passes_of rfl) ⟨c, Pt, t4, hcdv, f, c, ht1, t2, t3⟩
  refine ⟨t, ht, ?_⟩
  obtain ⟨hl, F0, ds, sm, nf, tb, dv, z⟩ := h
  refine kt F0 H (L2.start N vs) (envF N.length ds) fpNil _ (lok_start sm nf tb dv) ?_
  unfold runF at z
  cases e : b (envF N.length ds) with
  | nx e' =>
    rw [e] at z
    exact fun σ' F' H' fp' m L _ => z .non F' H' [] (m.new L) L.tab (.fz .non) (fun _ q => by cases q)
  | rt c e' =>
    rw [e] at z
    intro v σ' F' H' fp' m L _ ⟨l, o, d, nw⟩
    refine z v F' H' l (m.new L) L.tab o fun a ha => ?_
    rcases nw a ha with ⟨_, q⟩ | q
    · cases q
    · exact q
  | ex c e' =>
    rw [e] at z
    exact fun C σ' F' H' fp' hc m L _ => z C F' H' hc (m.new L) L.tab
  | bk _ => rw [e] at z; exact z.elim
  | ct _ => rw [e] at z; exact z.elim
  | no => rw [e] at z; exact z.elim
/-! ### the end of a law with the table -/
theorem walk_lam {l : PySem.W.OpenLaw} {n k : Nat} {q : Program} {loose : List Str} {XP : (Str → Option Value) → Heap → Prop} {YP : World → Heap → Prop} {d : DefRec} {CX : CXT} {x : Str} (hn : l.most = some n) (hn2 : n ≤ sizeLine) (hdf : d.params.defaults = []) (hr : Room k callerA)
    (F : ∀ (w : World) (mg : Str → Option Value) (fa : Addr) (h : Heap), YP w h → h.Ns mainGlobals mg → mg d.name = some (.ref fa) → ∃ K : PySem.W.Frag, K.In h ∧ LawAtS l w K CX k n x mg fa h)
    (hCX : ∀ (H : Hp) (s : Shared) (e : Value) (s' : Shared), CX [] H s (fun _ _ _ => False) e s' → False) : PySem.W.WalkO q loose XP YP l.row.toRowW d [] (fun f vs => PySem.call f vs) := by
  refine Att.attach_callB hn hdf fun w s0 s1 mg mb fa o pm cd doc a vs ns G Y _ _ _ hmg hob hin hle hbi hge => ?_
  obtain ⟨K, KX, fd, cs, sp, c1, c2, c3, c4, c5, c6⟩ := F w mg fa s1.heap Y G.T.g hmg
  exact law_callTs (cs := cs) KX G.T.g G.T.b G.T.builtins G.T.nolimit hge c1 c2 c3 G.T.bmain hob hin (Nat.le_trans hle hn2) hr c6 c4 (fun H a1 a2 => c5 H a ns hle hbi a1 a2) fun H => hCX H s1
theorem law_at {l : PySem.W.OpenLaw} {w : World} {K : PySem.W.Frag} {CX : CXT} {k n : Nat} {x : Str} {mg : Str → Option Value} {fa : Addr} {h : Heap} {fd : FuncData} {g : Fn} (X : K.In h) (G : h.Ns mainGlobals mg) (T : TabS0 K h)
    (hb : ∀ (s : Shared) (u : Value), BindsTo s fd ⟨[u], []⟩ [(x, u)]) (hg : ∀ ns : List Int, ns.length ≤ n → g [.list (ns.map .int)] = .ok (.fz (.bool true))) (hF : ∀ base : Heap, TabT K mg base → FnOk l.prog w K mg base CX k fa fd [x] (spD K mg 1 g)) : LawAtS l w K CX k n x mg fa h := by
  obtain ⟨f, c, P, t1, t2, t3, t4, t5, t6, t7⟩ := T
  have hm := PySem.W.mg_of X G t1
  have one : ∀ p : Addr × Addr, p ∈ [(c, P)] → p = (c, P) := fun p hp => by simpa using hp
  refine ⟨fd, [(c, P)], spD K mg 1 g, fun p hp => ?_, fun p hp => ?_, fun p hp => ?_, hb, fun H a ns hl _ hT hS => ?_, fun base _ _ TB => hF base ⟨f, c, P, hm, t2, t3, TB (c, P) (by simp)⟩⟩
  · rw [one p hp]; exact t5
  · rw [one p hp]; exact t4
  · rw [one p hp]; exact codeB_ok t7 (fun ob e => X _ _ e) t6
  · refine sp_start H (fun P' hP' => ?_) a ns hS (hg ns hl)
    rw [hP'.uniq ⟨f, c, hm, t2, t3⟩]
    exact TabS.nil (hT (c, P) (by simp))
end DL

set_option Elab.async false
set_option linter.all false
set_option maxRecDepth 100000
set_option maxHeartbeats 4000000
/-! DM, part a: what the plain functions of DL give, by pre- and postconditions. -/
namespace DL
open PySem PySem.Spec L2

@[irreducible] def Wp {α : Type} (r : Re α) (P : α → LE → Prop) (X : Str → Prop) : Prop := match r with
  | .ok a e => P a e
  | .ex c _ => X c
  | .no => False
structure Pst where
  nx : LE → Prop
  rt : Cell → Prop
  bk : LE → Prop := fun _ => False
  ct : LE → Prop := fun _ => False
  ex : Str → Prop := fun _ => False
@[irreducible] def Pq (o : Out) (p : Pst) : Prop := match o with
  | .nx e => p.nx e
  | .rt c _ => p.rt c
  | .bk e => p.bk e
  | .ct e => p.ct e
  | .ex c _ => p.ex c
  | .no => False
@[irreducible] def Okx (r : Rf) (P : Cell → Prop) (X : Str → Prop) : Prop := match r with
  | .ok c => P c
  | .ex c => X c
  | .no => False
abbrev noX : Str → Prop := fun _ => False
section
variable {α : Type} {e : LE} {P : α → LE → Prop} {X : Str → Prop} {p : Pst}
@[simp] theorem wp_ok {a : α} : Wp (.ok a e) P X = P a e := by unfold Wp; rfl
@[simp] theorem wp_no : Wp (.no : Re α) P X = False := by unfold Wp; rfl
@[simp] theorem wp_ex {c : Str} : Wp (.ex c e : Re α) P X = X c := by unfold Wp; rfl
theorem pqc_nx : Pq (.nx e) p = p.nx e := by unfold Pq; rfl
theorem pqc_rt {c : Cell} : Pq (.rt c e) p = p.rt c := by unfold Pq; rfl
theorem pqc_bk : Pq (.bk e) p = p.bk e := by unfold Pq; rfl
theorem pqc_ct : Pq (.ct e) p = p.ct e := by unfold Pq; rfl
theorem pqc_ex {c : Str} : Pq (.ex c e) p = p.ex c := by unfold Pq; rfl
theorem pqc_no : Pq .no p = False := by unfold Pq; rfl
theorem okc_ok {c : Cell} {P : Cell → Prop} : Okx (.ok c) P X = P c := by unfold Okx; rfl
theorem okc_ex {c : Str} {P : Cell → Prop} : Okx (.ex c) P X = X c := by unfold Okx; rfl
theorem okc_no {P : Cell → Prop} : Okx .no P X = False := by unfold Okx; rfl
end
section
variable {α β : Type} {e : LE} {P : α → LE → Prop} {Q : β → LE → Prop} {X : Str → Prop} {p : Pst}
theorem Wp.imp {r : Re α} {P' : α → LE → Prop} {X' : Str → Prop} (h : Wp r P X) (i : ∀ a e, P a e → P' a e) (x : ∀ c, X c → X' c) : Wp r P' X' := by
  cases r with
  | ok a e => rw [wp_ok] at h ⊢; exact i _ _ h
  | ex c e => rw [wp_ex] at h ⊢; exact x _ h
  | no => rw [wp_no] at h; exact h.elim
theorem Pq.imp {o : Out} {p p' : Pst} (h : Pq o p) (h1 : ∀ e, p.nx e → p'.nx e) (h2 : ∀ c, p.rt c → p'.rt c) (h3 : ∀ e, p.bk e → p'.bk e) (h4 : ∀ e, p.ct e → p'.ct e) (h5 : ∀ c, p.ex c → p'.ex c) : Pq o p' := by
  cases o with
  | nx e => rw [pqc_nx] at h ⊢; exact h1 _ h
  | rt c e => rw [pqc_rt] at h ⊢; exact h2 _ h
  | bk e => rw [pqc_bk] at h ⊢; exact h3 _ h
  | ct e => rw [pqc_ct] at h ⊢; exact h4 _ h
  | ex c e => rw [pqc_ex] at h ⊢; exact h5 _ h
  | no => rw [pqc_no] at h; exact h.elim
theorem Okx.imp {r : Rf} {P P' : Cell → Prop} {X X' : Str → Prop} (h : Okx r P X) (i : ∀ a, P a → P' a) (x : ∀ c, X c → X' c) : Okx r P' X' := by
  cases r with
  | ok a => rw [okc_ok] at h ⊢; exact i _ h
  | ex c => rw [okc_ex] at h ⊢; exact x _ h
  | no => rw [okc_no] at h; exact h.elim
theorem Okx.eq {r : Rf} {c : Cell} (h : Okx r (fun x => x = c) noX) : r = .ok c := by
  cases r with
  | ok a => rw [okc_ok] at h; exact congrArg Rf.ok h
  | ex c => rw [okc_ex] at h; exact h.elim
  | no => rw [okc_no] at h; exact h.elim
theorem Okx.of_eq {r : Rf} {c : Cell} {P : Cell → Prop} {X : Str → Prop} (h : r = .ok c) (k : P c) : Okx r P X := by rw [h, okc_ok]; exact k
@[simp] theorem wp_ret {a : α} : Wp (ret a e) P X = P a e := by first | exact wp_ok | exact wp_no
@[simp] theorem wp_stuck : Wp (stuck e : Re α) P X = False := by first | exact wp_ok | exact wp_no
@[simp] theorem wp_bnd {f : M α} {g : α → M β} : Wp (bnd f g e) Q X = Wp (f e) (fun a e' => Wp (g a e') Q X) X := by
  unfold bnd; cases f e <;> simp
@[simp] theorem wp_lift_some {a : α} : Wp (lift (some a) e) P X = P a e := by first | exact wp_ok | exact wp_no
@[simp] theorem wp_lift_none : Wp (lift (none : Option α) e) P X = False := by first | exact wp_ok | exact wp_no
theorem wp_lift {o : Option α} {a : α} (h : o = some a) (k : P a e) : Wp (lift o e) P X := by rw [h]; exact (wp_ok (a := a)).symm ▸ k
@[simp] theorem wp_ite {c : Prop} [Decidable c] {f g : M α} : Wp ((if c then f else g) e) P X = if c then Wp (f e) P X else Wp (g e) P X := by split <;> rfl
@[simp] theorem wp_dat_fz {d : D} {P : D → LE → Prop} : Wp (dat (.fz d) e) P X = P d e := by first | exact wp_ok | exact wp_no
@[simp] theorem wp_dat_ow {d : List D} {P : D → LE → Prop} : Wp (dat (.ow d) e) P X = P (.list d) e := by first | exact wp_ok | exact wp_no
@[simp] theorem wp_asB {b : Bool} {P : Bool → LE → Prop} : Wp (asB (.fz (.bool b)) e) P X = P b e := by first | exact wp_ok | exact wp_no
@[simp] theorem wp_asBD {b : Bool} {P : Bool → LE → Prop} : Wp (asBD (.bool b) e) P X = P b e := by first | exact wp_ok | exact wp_no
@[simp] theorem wp_asI {b : Int} {P : Int → LE → Prop} : Wp (asI (.int b) e) P X = P b e := by first | exact wp_ok | exact wp_no
@[simp] theorem wp_asS {b : Str} {P : Str → LE → Prop} : Wp (asS (.str b) e) P X = P b e := by first | exact wp_ok | exact wp_no
@[simp] theorem wp_asL {b : List D} {P : List D → LE → Prop} : Wp (asL (.list b) e) P X = P b e := by first | exact wp_ok | exact wp_no
@[simp] theorem wp_asT {b : List D} {P : List D → LE → Prop} : Wp (asT (.tuple b) e) P X = P b e := by first | exact wp_ok | exact wp_no
/-! ### expressions -/
@[simp] theorem wp_op2 {g : D → D → Option Cell} {fa fb : M D} {P : Cell → LE → Prop} : Wp (op2 g fa fb e) P X = Wp (fa e) (fun x e' => Wp (fb e') (fun y e'' => Wp (lift (g x y) e'') P X) X) X := by simp [op2]
@[simp] theorem wp_opL {g : List D → Option Cell} {f : M (List D)} {P : Cell → LE → Prop} : Wp (opL g f e) P X = Wp (f e) (fun ds e' => Wp (lift (g ds) e') P X) X := by simp [opL]
@[simp] theorem wp_opSt {g : Str → D → Option Cell} {fa fb : M D} {P : Cell → LE → Prop} : Wp (opSt g fa fb e) P X = Wp (fa e) (fun x e' => Wp (asS x e') (fun a e' => Wp (fb e') (fun y e'' => Wp (lift (g a y) e'') P X) X) X) X := by simp [opSt]
@[simp] theorem wp_opLi {g : List D → D → Option Cell} {fa fb : M D} {P : Cell → LE → Prop} : Wp (opLi g fa fb e) P X = Wp (fa e) (fun x e' => Wp (asL x e') (fun a e' => Wp (fb e') (fun y e'' => Wp (lift (g a y) e'') P X) X) X) X := by simp [opLi]
@[simp] theorem wp_opTu {g : List D → D → Option Cell} {fa fb : M D} {P : Cell → LE → Prop} : Wp (opTu g fa fb e) P X = Wp (fa e) (fun x e' => Wp (asT x e') (fun a e' => Wp (fb e') (fun y e'' => Wp (lift (g a y) e'') P X) X) X) X := by simp [opTu]
@[simp] theorem wp_isiM {T : String} {f : M D} {P : Cell → LE → Prop} : Wp (isiM T f e) P X = Wp (f e) (fun d e' => P (.fz (.bool (isiD T d))) e') X := by simp [isiM]
@[simp] theorem wp_opS {fe : M D} {fl fh : M (Option Int)} {P : Cell → LE → Prop} : Wp (opS fe fl fh e) P X = Wp (fe e) (fun d e' => Wp (fl e') (fun l e' => Wp (fh e') (fun h e' => Wp (lift (dSlice d l h) e') P X) X) X) X := by simp [opS]
@[simp] theorem wp_mPart {f : M D} {P : Option Int → LE → Prop} : Wp (mPart f e) P X = Wp (f e) (fun d e' => Wp (asI d e') (fun i e' => P (some i) e') X) X := by simp [mPart]
@[simp] theorem wp_mNeg {f : M D} {P : Cell → LE → Prop} : Wp (mNeg f e) P X = Wp (f e) (fun d e' => Wp (asI d e') (fun i e' => P (.fz (.int (-i))) e') X) X := by simp [mNeg]
@[simp] theorem wp_fzc {f : M D} {P : Cell → LE → Prop} : Wp (fzc f e) P X = Wp (f e) (fun d e' => P (.fz d) e') X := by simp [fzc]
@[simp] theorem wp_mNil {P : List D → LE → Prop} : Wp (mNil e) P X = P [] e := by first | exact wp_ok | exact wp_no
@[simp] theorem wp_mCons {f : M D} {g : M (List D)} {P : List D → LE → Prop} : Wp (mCons f g e) P X = Wp (f e) (fun d e' => Wp (g e') (fun ds e'' => P (d :: ds) e'') X) X := by simp [mCons]
@[simp] theorem wp_mTup {f : M (List D)} {P : D → LE → Prop} : Wp (mTup f e) P X = Wp (f e) (fun ds e' => if ds.length ≤ 16777216 then P (.tuple ds) e' else False) X := by simp [mTup]
@[simp] theorem wp_mLst {f : M (List D)} {P : Cell → LE → Prop} : Wp (mLst f e) P X = Wp (f e) (fun ds e' => if ds.length ≤ 16777216 then P (.ow ds) e' else False) X := by simp [mLst]
@[simp] theorem wp_mAnd {f g : M Bool} {P : Bool → LE → Prop} : Wp (mAnd f g e) P X = Wp (f e) (fun b e' => if b = true then Wp (g e') P X else P false e') X := by simp [mAnd]
@[simp] theorem wp_mOr {f g : M Bool} {P : Bool → LE → Prop} : Wp (mOr f g e) P X = Wp (f e) (fun b e' => if b = true then P true e' else Wp (g e') P X) X := by simp [mOr]
@[simp] theorem wp_mNot {f : M Bool} {P : Bool → LE → Prop} : Wp (mNot f e) P X = Wp (f e) (fun b e' => P (!b) e') X := by simp [mNot]
@[simp] theorem wp_mIf {c : M Bool} {f g : M α} : Wp (mIf c f g e) P X = Wp (c e) (fun b e' => if b = true then Wp (f e') P X else Wp (g e') P X) X := by simp [mIf]
@[simp] theorem wp_vAnd {f g : M D} {P : D → LE → Prop} : Wp (vAnd f g e) P X = Wp (f e) (fun d e' => Wp (asBD d e') (fun b e' => if b = true then Wp (g e') P X else P (.bool false) e') X) X := by simp [vAnd]
@[simp] theorem wp_vOr {f g : M D} {P : D → LE → Prop} : Wp (vOr f g e) P X = Wp (f e) (fun d e' => Wp (asBD d e') (fun b e' => if b = true then P (.bool true) e' else Wp (g e') P X) X) X := by simp [vOr]
@[simp] theorem wp_vNot {f : M D} {P : D → LE → Prop} : Wp (vNot f e) P X = Wp (f e) (fun d e' => Wp (asBD d e') (fun b e' => P (.bool (!b)) e') X) X := by simp [vNot]
@[simp] theorem wp_opC {g g' : D → D → Option Cell} {fa fb fc : M D} {P : Cell → LE → Prop} : Wp (opC g g' fa fb fc e) P X = Wp (fa e) (fun x e' => Wp (fb e') (fun y e' => Wp (lift (g x y) e') (fun c e' => Wp (asB c e') (fun k e' => if k = true then Wp (fc e') (fun z e' => Wp (lift (g' y z) e') P X) X else P (.fz (.bool false)) e') X) X) X) X := by simp [opC]
@[simp] theorem wp_call {g : Fn} {f : M (List D)} {P : Cell → LE → Prop} : Wp (mCall g f e) P X = Wp (f e) (fun ds e' => Okx (g ds) (fun c => P c e') X) X := by
  unfold mCall
  rw [wp_bnd]
  congr 1
  funext ds e'
  unfold mRf
  cases g ds <;> simp [okc_ok, okc_ex, okc_no]
@[simp] theorem wp_mIter {f : M D} {P : List D → LE → Prop} : Wp (mIter f e) P X = Wp (f e) (fun d e' => Wp (lift (itemsD d) e') P X) X := by simp [mIter]
/-! ### statements -/
@[simp] theorem pq_nil : Pq (sNil e) p = p.nx e := by first | exact pqc_nx | exact pqc_no | exact pqc_rt | exact pqc_bk | exact pqc_ct
@[simp] theorem pq_no : Pq (sNo e) p = False := by first | exact pqc_nx | exact pqc_no | exact pqc_rt | exact pqc_bk | exact pqc_ct
@[simp] theorem pq_seq {f g : ST} : Pq (sSeq f g e) p = Pq (f e) { p with nx := fun e' => Pq (g e') p } := by
  unfold sSeq; cases f e <;> simp [pqc_nx, pqc_rt, pqc_bk, pqc_ct, pqc_ex, pqc_no]
@[simp] theorem pq_E {f : M α} {k : α → ST} : Pq (sE f k e) p = Wp (f e) (fun a e' => Pq (k a e') p) p.ex := by
  unfold sE; cases f e <;> simp [pqc_ex, pqc_no]
@[simp] theorem pq_ret {f : M Cell} : Pq (sRet f e) p = Wp (f e) (fun c _ => p.rt c) p.ex := by unfold sRet; rw [pq_E]; simp only [pqc_rt]
@[simp] theorem pq_retN : Pq (sRetN e) p = p.rt (.fz .none) := by first | exact pqc_nx | exact pqc_no | exact pqc_rt | exact pqc_bk | exact pqc_ct
@[simp] theorem pq_drop {f : M Cell} : Pq (sDrop f e) p = Wp (f e) (fun _ e' => p.nx e') p.ex := by unfold sDrop; rw [pq_E]; simp only [pqc_nx]
@[simp] theorem pq_stC {i : Nat} {c : Cell} : Pq (stC i c e) p = if i < e.length then p.nx (e.set i (some c)) else False := by unfold stC; split <;> simp [pqc_nx, pqc_no]
@[simp] theorem pq_set {i : Nat} {f : M Cell} : Pq (sSet i f e) p = Wp (f e) (fun c e' => if i < e'.length then p.nx (e'.set i (some c)) else False) p.ex := by simp [sSet]
@[simp] theorem pq_if {c : M Bool} {f g : ST} : Pq (sIf c f g e) p = Wp (c e) (fun b e' => if b = true then Pq (f e') p else Pq (g e') p) p.ex := by
  simp only [sIf, pq_E]; congr 1; funext b e'; split <;> rfl
@[simp] theorem pq_brk : Pq (sBrk e) p = p.bk e := by first | exact pqc_nx | exact pqc_no | exact pqc_rt | exact pqc_bk | exact pqc_ct
@[simp] theorem pq_cont : Pq (sCont e) p = p.ct e := by first | exact pqc_nx | exact pqc_no | exact pqc_rt | exact pqc_bk | exact pqc_ct
theorem pq_for {tgt : D → LE → Option LE} {src : M (List D)} {body : ST} : Pq (sFor tgt src body e) p = Wp (src e) (fun ds e' => Pq (sFor1 tgt body ds e') p) p.ex := by simp [sFor]
/-- a for statement, by an invariant -/
theorem pq_for1 {tgt : D → LE → Option LE} {body : ST} (I : Nat → LE → Prop) : ∀ (ds : List D) (n : Nat) (e : LE), I n e → (∀ i e, I (n + i) e → (h : i < ds.length) → ∃ e1, tgt ds[i] e = some e1 ∧ Pq (body e1) { nx := I (n + i + 1), ct := I (n + i + 1), bk := p.nx, rt := p.rt, ex := p.ex }) →
    (∀ e, I (n + ds.length) e → p.nx e) → Pq (sFor1 tgt body ds e) p
  | [], n, e, h0, _, h2 => by
    unfold sFor1
    rw [pqc_nx]; exact h2 e h0
  | d :: ds, n, e, h0, h1, h2 => by
    obtain ⟨e1, ht, hb⟩ := h1 0 e h0 (by simp)
    simp only [List.getElem_cons_zero] at ht
    have go : ∀ e', I (n + 1) e' → Pq (sFor1 tgt body ds e') p := fun e' h' => pq_for1 I ds (n + 1) e' h' (fun i e hi hl => by
      have := h1 (i + 1) e (by rwa [show n + (i + 1) = n + 1 + i by omega]) (by simp; omega)
      simp only [List.getElem_cons_succ] at this
      rwa [show n + (i + 1) + 1 = n + 1 + i + 1 by omega] at this) (fun e hh => h2 e (by rw [List.length_cons, show n + (ds.length + 1) = n + 1 + ds.length by omega]; exact hh))
    unfold sFor1
    rw [ht]
    simp only
    cases hbo : body e1 with
    | nx e' => rw [hbo, pqc_nx] at hb; exact go e' hb
    | ct e' => rw [hbo, pqc_ct] at hb; exact go e' hb
    | bk e' => rw [hbo, pqc_bk] at hb; simp only [pqc_nx]; exact hb
    | rt c e' => rw [hbo, pqc_rt] at hb; simp only [pqc_rt]; exact hb
    | ex c e' => rw [hbo, pqc_ex] at hb; simp only [pqc_ex]; exact hb
    | no => rw [hbo, pqc_no] at hb; exact hb.elim
/-- .. over a list that is mapped -/
theorem pq_forI {tgt : D → LE → Option LE} {body : ST} {src : M (List D)} (I : Nat → LE → Prop) (ds : List D) (hs : Wp (src e) (fun xs e' => xs = ds ∧ I 0 e') p.ex) (h1 : ∀ i e, I i e → (h : i < ds.length) → ∃ e1, tgt ds[i] e = some e1 ∧ Pq (body e1) { nx := I (i + 1), ct := I (i + 1), bk := p.nx, rt := p.rt, ex := p.ex })
    (h2 : ∀ e, I ds.length e → p.nx e) : Pq (sFor tgt src body e) p := by
  rw [pq_for]
  refine hs.imp (fun xs e' ⟨hx, h0⟩ => ?_) (fun _ h => h)
  subst hx
  exact pq_for1 I xs 0 e' h0 (fun i e hi hl => by simpa using h1 i e (by simpa using hi) hl) (fun e hh => h2 e (by simpa using hh))
/-- a while statement: a measure below the turns -/
theorem pq_wh {c : M Bool} {body : ST} (I : LE → Prop) (μ : LE → Nat) : ∀ (n : Nat) (e : LE), I e → μ e < n →
    (∀ e, I e → Wp (c e) (fun b e' => if b = true then Pq (body e') { nx := fun e2 => I e2 ∧ μ e2 < μ e, ct := fun e2 => I e2 ∧ μ e2 < μ e, bk := p.nx, rt := p.rt, ex := p.ex } else p.nx e') p.ex) → Pq (sWh c body n e) p
  | 0, e, _, hm, _ => absurd hm (Nat.not_lt_zero _)
  | n + 1, e, hI, hm, h => by
    unfold sWh
    rw [pq_E]
    refine (h e hI).imp (fun b e' hb => ?_) (fun _ h => h)
    cases b with
    | false => simpa [pqc_nx] using hb
    | true =>
      simp only [if_true] at hb ⊢
      cases hbo : body e' with
      | nx e2 => rw [hbo, pqc_nx] at hb; exact pq_wh I μ n e2 hb.1 (by have := hb.2; omega) h
      | ct e2 => rw [hbo, pqc_ct] at hb; exact pq_wh I μ n e2 hb.1 (by have := hb.2; omega) h
      | bk e2 => rw [hbo, pqc_bk] at hb; simp only [pqc_nx]; exact hb
      | rt c e2 => rw [hbo, pqc_rt] at hb; simp only [pqc_rt]; exact hb
      | ex c e2 => rw [hbo, pqc_ex] at hb; simp only [pqc_ex]; exact hb
      | no => rw [hbo, pqc_no] at hb; exact hb.elim
theorem okx_run {n : Nat} {f : ST} {ds : List D} {P : Cell → Prop} (h : Pq (f (envF n ds)) { nx := fun _ => P (.fz .none), rt := P, ex := X }) : Okx (runF n f ds) P X := by
  unfold runF outF
  cases hf : f (envF n ds) with
  | nx e => rw [hf, pqc_nx] at h; rw [okc_ok]; exact h
  | rt c e => rw [hf, pqc_rt] at h; rw [okc_ok]; exact h
  | ex c e => rw [hf, pqc_ex] at h; rw [okc_ex]; exact h
  | bk e => rw [hf, pqc_bk] at h; exact h.elim
  | ct e => rw [hf, pqc_ct] at h; exact h.elim
  | no => rw [hf, pqc_no] at h; exact h.elim
/-! ### comprehensions -/
theorem cmp1_map {γ : Type} {vs : List Nat} {tgt : D → LE → Option LE} {test : M Bool} {elt : M D} (f g : γ → D) (bt : γ → Bool) (w : LE) : ∀ (xs : List γ) (e : LE), wipeE e vs = w →
    (∀ x ∈ xs, ∃ e1, tgt (f x) w = some e1 ∧ Wp (test e1) (fun b e2 => b = bt x ∧ (b = true → Wp (elt e2) (fun y e3 => y = g x ∧ wipeE e3 vs = w) noX) ∧ (b = false → wipeE e2 vs = w)) noX) →
    ∃ e', cmp1 vs tgt test elt (xs.map f) e = .ok ((xs.filter bt).map g) e' ∧ wipeE e' vs = w
  | [], e, hw, _ => ⟨e, rfl, hw⟩
  | d :: ds, e, hw, h => by
    obtain ⟨e1, ht, hb⟩ := h d (by simp)
    have hr := fun d' hd' => h d' (List.mem_cons_of_mem _ hd')
    simp only [List.map_cons, cmp1, hw, ht]
    cases hte : test e1 with
    | ex c e2 => rw [hte, wp_ex] at hb; exact hb.elim
    | no => rw [hte, wp_no] at hb; exact hb.elim
    | ok b e2 =>
      rw [hte, wp_ok] at hb
      obtain ⟨hbd, h1, h2⟩ := hb
      simp only [bnd, hte]
      cases b with
      | false =>
        simp only [Bool.false_eq_true, if_false]
        obtain ⟨e', hc, hw'⟩ := cmp1_map f g bt w ds e2 (h2 rfl) hr
        exact ⟨e', by rw [hc, List.filter_cons_of_neg (by rw [← hbd]; decide)], hw'⟩
      | true =>
        simp only [if_true]
        replace h1 := h1 rfl
        cases hel : elt e2 with
        | ex c e3 => rw [hel, wp_ex] at h1; exact h1.elim
        | no => rw [hel, wp_no] at h1; exact h1.elim
        | ok y e3 =>
          rw [hel, wp_ok] at h1
          obtain ⟨hy, hw3⟩ := h1
          obtain ⟨e', hc, hw'⟩ := cmp1_map f g bt w ds e3 hw3 hr
          exact ⟨e', by simp only [bnd, hel, hc, ret]; rw [List.filter_cons_of_pos (by rw [← hbd]), List.map_cons, hy], hw'⟩
/-- a comprehension over xs, read as data by f -/
theorem wp_comp {γ : Type} {vs : List Nat} {tgt : D → LE → Option LE} {test : M Bool} {elt : M D} {src : M (List D)} {P : Cell → LE → Prop} (f g : γ → D) (bt : γ → Bool) (xs : List γ)
    (hs : Wp (src e) (fun ds e' => ds = xs.map f ∧ xs.length ≤ 16777216 ∧ P (.ow ((xs.filter bt).map g)) (wipeE e' vs) ∧ ∀ x ∈ xs, ∃ e1, tgt (f x) (wipeE e' vs) = some e1 ∧ Wp (test e1) (fun b e2 => b = bt x ∧ (b = true → Wp (elt e2) (fun y e3 => y = g x ∧ wipeE e3 vs = wipeE e' vs) noX) ∧ (b = false → wipeE e2 vs = wipeE e' vs)) noX) X) :
    Wp (mComp vs tgt test elt src e) P X := by
  unfold mComp
  rw [wp_bnd]
  refine hs.imp (fun ds e' ⟨hd, hl, hP, h⟩ => ?_) (fun _ h => h)
  obtain ⟨e2, hc, hw⟩ := cmp1_map f g bt (wipeE e' vs) xs e' rfl h
  subst hd
  simp only [List.length_map, if_pos hl, hc, hw, wp_ok]
  exact hP
/-- .. of every item -/
theorem wp_compM {γ : Type} {vs : List Nat} {tgt : D → LE → Option LE} {elt : M D} {src : M (List D)} {P : Cell → LE → Prop} (f g : γ → D) (xs : List γ)
    (hs : Wp (src e) (fun ds e' => ds = xs.map f ∧ xs.length ≤ 16777216 ∧ P (.ow (xs.map g)) (wipeE e' vs) ∧ ∀ x ∈ xs, ∃ e1, tgt (f x) (wipeE e' vs) = some e1 ∧ Wp (elt e1) (fun y e3 => y = g x ∧ wipeE e3 vs = wipeE e' vs) noX) X) :
    Wp (mComp vs tgt (ret true) elt src e) P X := by
  refine wp_comp f g (fun _ => true) xs (hs.imp (fun ds e' ⟨hd, hl, hP, h⟩ => ⟨hd, hl, by rw [List.filter_eq_self.mpr (fun _ _ => rfl)]; exact hP, fun d hd => ?_⟩) (fun _ h => h))
  obtain ⟨e1, h1, h2⟩ := h d hd
  exact ⟨e1, h1, by rw [wp_ret]; exact ⟨rfl, fun _ => h2, fun z => by cases z⟩⟩
/-- .. each by a relation -/
theorem cmp1_rel {vs : List Nat} {tgt : D → LE → Option LE} {test : M Bool} {elt : M D} (R : D → Prop) (w : LE) : ∀ (ds : List D) (e : LE), wipeE e vs = w →
    (∀ d ∈ ds, ∃ e1, tgt d w = some e1 ∧ Wp (test e1) (fun b e2 => (b = true → Wp (elt e2) (fun y e3 => R y ∧ wipeE e3 vs = w) noX) ∧ (b = false → wipeE e2 vs = w)) noX) →
    ∃ ys e', cmp1 vs tgt test elt ds e = .ok ys e' ∧ wipeE e' vs = w ∧ (∀ y ∈ ys, R y) ∧ ys.length ≤ ds.length
  | [], e, hw, _ => ⟨[], e, rfl, hw, (fun _ h => by cases h), Nat.le_refl _⟩
  | d :: ds, e, hw, h => by
    obtain ⟨e1, ht, hb⟩ := h d (by simp)
    have hr := fun d' hd' => h d' (List.mem_cons_of_mem _ hd')
    simp only [cmp1, hw, ht]
    cases hte : test e1 with
    | ex c e2 => rw [hte, wp_ex] at hb; exact hb.elim
    | no => rw [hte, wp_no] at hb; exact hb.elim
    | ok b e2 =>
      rw [hte, wp_ok] at hb
      obtain ⟨h1, h2⟩ := hb
      simp only [bnd, hte]
      cases b with
      | false =>
        simp only [Bool.false_eq_true, if_false]
        obtain ⟨ys, e', hc, hw', k1, k2⟩ := cmp1_rel R w ds e2 (h2 rfl) hr
        exact ⟨ys, e', hc, hw', k1, Nat.le_succ_of_le k2⟩
      | true =>
        simp only [if_true]
        replace h1 := h1 rfl
        cases hel : elt e2 with
        | ex c e3 => rw [hel, wp_ex] at h1; exact h1.elim
        | no => rw [hel, wp_no] at h1; exact h1.elim
        | ok y e3 =>
          rw [hel, wp_ok] at h1
          obtain ⟨hy, hw3⟩ := h1
          obtain ⟨ys, e', hc, hw', k1, k2⟩ := cmp1_rel R w ds e3 hw3 hr
          refine ⟨y :: ys, e', by simp only [bnd, hel, hc, ret], hw', fun z hz => ?_, Nat.succ_le_succ k2⟩
          rcases List.mem_cons.mp hz with q | q
          · rw [q]; exact hy
          · exact k1 z q
theorem wp_compR {vs : List Nat} {tgt : D → LE → Option LE} {test : M Bool} {elt : M D} {src : M (List D)} {P : Cell → LE → Prop} (R : D → Prop)
    (hs : Wp (src e) (fun ds e' => ds.length ≤ 16777216 ∧ (∀ ys : List D, (∀ y ∈ ys, R y) → ys.length ≤ ds.length → P (.ow ys) (wipeE e' vs)) ∧ ∀ d ∈ ds, ∃ e1, tgt d (wipeE e' vs) = some e1 ∧ Wp (test e1) (fun b e2 => (b = true → Wp (elt e2) (fun y e3 => R y ∧ wipeE e3 vs = wipeE e' vs) noX) ∧ (b = false → wipeE e2 vs = wipeE e' vs)) noX) X) :
    Wp (mComp vs tgt test elt src e) P X := by
  unfold mComp
  rw [wp_bnd]
  refine hs.imp (fun ds e' ⟨hl, hP, h⟩ => ?_) (fun _ h => h)
  obtain ⟨ys, e2, hc, hw, k1, k2⟩ := cmp1_rel R (wipeE e' vs) ds e' rfl h
  simp only [if_pos hl, hc, hw, wp_ok]
  exact hP ys k1 k2
end
end DL


set_option Elab.async false
set_option linter.all false
set_option maxRecDepth 100000
set_option maxHeartbeats 4000000
/-! DM, part b: slots, operations on typed data. -/
namespace DL
open PySem PySem.Spec L2
def pkO (o : Option (Option Cell)) (k : D → Prop) : Prop := match o with
  | some (some (.fz d)) => k d
  | some (some (.ow ds)) => k (.list ds)
  | _ => False
def frO (o : Option (Option Cell)) (k : D → Option Cell → Prop) : Prop := match o with
  | some (some (.fz d)) => k d (some (.fz d))
  | some (some c) => (match c.data with
    | some d => k d (some (.fz d))
    | none => False)
  | _ => False
def mvO (o : Option (Option Cell)) (k : Cell → Prop) : Prop := match o with
  | some (some c) => k c
  | _ => False
def opO {α : Type} (o : Option α) (k : α → Prop) : Prop := match o with
  | some a => k a
  | none => False
def owO (o : Option (Option Cell)) : Option (List D) := match o with
  | some (some (.ow ds)) => some ds
  | _ => none
section
variable {α β : Type} {e : LE} {X : Str → Prop} {p : Pst} {i : Nat}
@[simp] theorem pkO_fz {d : D} {k : D → Prop} : pkO (some (some (.fz d))) k = k d := rfl
@[simp] theorem pkO_ow {d : List D} {k : D → Prop} : pkO (some (some (.ow d))) k = k (.list d) := rfl
@[simp] theorem frO_fz {d : D} {k : D → Option Cell → Prop} : frO (some (some (.fz d))) k = k d (some (.fz d)) := rfl
@[simp] theorem frO_ow {d : List D} {k : D → Option Cell → Prop} : frO (some (some (.ow d))) k = k (.list d) (some (.fz (.list d))) := rfl
@[simp] theorem mvO_some {c : Cell} {k : Cell → Prop} : mvO (some (some c)) k = k c := rfl
@[simp] theorem wp_pk {P : D → LE → Prop} : Wp (pk i e) P X = pkO e[i]? (fun d => P d e) := by
  unfold pk pkO
  split <;> simp_all
theorem set_self {α : Type} : ∀ {l : List α} {i : Nat} {x : α}, l[i]? = some x → l.set i x = l
  | [], _, _, h => by cases h
  | a :: l, 0, x, h => by cases h; rfl
  | a :: l, i + 1, x, h => by rw [List.set_cons_succ, set_self (by simpa using h)]
@[simp] theorem wp_fr {P : D → LE → Prop} : Wp (fr i e) P X = frO e[i]? (fun d c => P d (e.set i c)) := by
  unfold fr frO
  cases h : e[i]? with
  | none => simp
  | some o =>
    cases o with
    | none => simp
    | some c =>
      cases c with
      | fz d => simp [set_self h]
      | ow d => simp [Cell.data]
      | _ =>
        simp only
        split
        · rename_i hd; simp [hd]
        · rename_i hd; simp [hd]
@[simp] theorem wp_mvo {P : Cell → LE → Prop} : Wp (mvo i e) P X = mvO e[i]? (fun c => P c (e.set i none)) := by
  unfold mvo mvO
  split <;> simp_all
@[simp] theorem opO_some {α : Type} {a : α} {k : α → Prop} : opO (some a) k = k a := rfl
@[simp] theorem opO_none {α : Type} {k : α → Prop} : opO none k = False := rfl
@[simp] theorem opO_if {α : Type} {c : Prop} [Decidable c] {a : α} {k : α → Prop} : opO (if c then some a else none) k = (c ∧ k a) := by split <;> simp [*]
@[simp] theorem owO_ow {ds : List D} : owO (some (some (.ow ds))) = some ds := rfl
@[simp] theorem owO_fz {d : D} : owO (some (some (.fz d))) = none := rfl
@[simp] theorem owO_none : owO (some none) = none := rfl
@[simp] theorem atO_owO : atO i e = owO e[i]? := rfl
@[simp] theorem wp_mut {g : List D → List D → Option (D × List D)} {f : M (List D)} {P : Cell → LE → Prop} : Wp (mMut i g f e) P X = opO (atO i e) fun _ => Wp (f e) (fun as e1 => opO (atO i e1) fun ds => opO (g ds as) fun r => P (.fz r.1) (e1.set i (some (.ow r.2)))) X := by
  unfold mMut
  cases h : atO i e with
  | none => simp
  | some ds0 =>
    simp only [wp_bnd, opO_some]
    congr 1
    funext as e1
    cases h1 : atO i e1 with
    | none => simp
    | some ds =>
      cases h2 : g ds as with
      | none => simp [h2]
      | some r => simp [h2]
@[simp] theorem pq_setIx {f fi : M D} : Pq (sSetIx i f fi e) p = Wp (f e) (fun d e1 => opO (atO i e1) fun _ => Wp (fi e1) (fun k e2 => opO (atO i e2) fun ds => Wp (asI k e2) (fun n e2 => opO (ixN ds.length n) fun j => p.nx (e2.set i (some (.ow (ds.set j d))))) p.ex) p.ex) p.ex := by
  unfold sSetIx
  rw [pq_E]
  congr 1
  funext d e1
  cases h : atO i e1 with
  | none => simp [pqc_nx, pqc_no]
  | some ds0 =>
    simp only [pq_E, opO_some]
    congr 1
    funext k e2
    unfold setIx
    cases h2 : atO i e2 with
    | none => simp [pqc_nx, pqc_no]
    | some ds =>
      cases k with
      | int n =>
        simp only [wp_asI, opO_some]
        cases h3 : ixN ds.length n with
        | none => simp [pqc_nx, pqc_no]
        | some j => simp [pqc_nx, pqc_no]
      | _ => simp [asI, pqc_no]
@[simp] theorem pq_un {is : List Nat} {f : M D} : Pq (sUn is f e) p = Wp (f e) (fun d e' => opO (setT is d e') p.nx) p.ex := by
  simp only [sUn, pq_E]; congr 1; funext d e'; unfold stU
  cases h : setT is d e' <;> simp [pqc_nx, pqc_no]
@[simp] theorem wipeE_nil : wipeE e [] = e := rfl
@[simp] theorem wipeE_cons {v : Nat} {vs : List Nat} : wipeE e (v :: vs) = (wipeE e vs).set v none := rfl
@[simp] theorem setD_e {d : D} : setD i d e = if i < e.length then some (e.set i (some (.fz d))) else none := rfl
@[simp] theorem setT_e {is : List Nat} {ds : List D} : setT is (.tuple ds) e = setAll is ds e := rfl
@[simp] theorem setAll_nil : setAll [] [] e = some e := rfl
@[simp] theorem setAll_cons {is : List Nat} {d : D} {ds : List D} : setAll (i :: is) (d :: ds) e = (setD i d e).bind fun e' => setAll is ds e' := rfl
theorem wp_range1 {f : M (List D)} {P : List D → LE → Prop} : Wp (mRange1 f e) P X = Wp (f e) (fun ds e' => ∃ j, ds = [.int j] ∧ sm62 j = true ∧ P (rangeD 0 j.toNat) e') X := by
  unfold mRange1
  rw [wp_bnd]
  congr 1
  funext ds e'
  split
  · simp
  · rename_i h
    simp only [wp_stuck, eq_iff_iff, false_iff, not_exists, not_and]
    intro j hj
    exact absurd hj (h j)
theorem wp_range2 {f : M (List D)} {P : List D → LE → Prop} : Wp (mRange2 f e) P X = Wp (f e) (fun ds e' => ∃ i j, ds = [.int i, .int j] ∧ (sm62 i = true ∧ sm62 j = true) ∧ P (rangeD i (j - i).toNat) e') X := by
  unfold mRange2
  rw [wp_bnd]
  congr 1
  funext ds e'
  split
  · rename_i i j
    rw [wp_ite]
    simp only [wp_ret, wp_stuck, eq_iff_iff]
    constructor
    · intro h
      split at h
      · exact ⟨i, j, rfl, by assumption, h⟩
      · exact h.elim
    · rintro ⟨i', j', q, h1, h2⟩
      cases q
      rw [if_pos h1]; exact h2
  · rename_i h
    simp only [wp_stuck, eq_iff_iff, false_iff, not_exists, not_and]
    intro i j hj
    exact absurd hj (h i j)
end
end DL

set_option Elab.async false
set_option linter.all false
set_option maxRecDepth 100000
set_option maxHeartbeats 4000000
/-! DM, part c: data of a known kind. -/
namespace DL
open PySem PySem.Spec L2
section
variable {e : LE} {X : Str → Prop} {P : Cell → LE → Prop}
@[simp] theorem wp_lift_if {α : Type} {c : Prop} [Decidable c] {a : α} {P : α → LE → Prop} : Wp (lift (if c then some a else none) e) P X = (c ∧ P a e) := by
  split <;> simp [*]
@[simp] theorem wp_lift_map {α β : Type} {o : Option α} {f : α → β} {P : β → LE → Prop} : Wp (lift (o.map f) e) P X = ∃ a, o = some a ∧ P (f a) e := by
  cases o <;> simp
@[simp] theorem dAdd_int {i j : Int} : dAdd (.int i) (.int j) = some (.fz (.int (i + j))) := rfl
@[simp] theorem dAdd_str {a b : Str} : dAdd (.str a) (.str b) = if a.length + b.length ≤ sizeLine then some (.fz (.str (a ++ b))) else none := rfl
@[simp] theorem dAdd_list {a b : List D} : dAdd (.list a) (.list b) = if a.length + b.length ≤ sizeLine then some (.ow (a ++ b)) else none := rfl
@[simp] theorem dAdd_tuple {a b : List D} : dAdd (.tuple a) (.tuple b) = if a.length + b.length ≤ sizeLine then some (.fz (.tuple (a ++ b))) else none := rfl
@[simp] theorem dSub_int {i j : Int} : dSub (.int i) (.int j) = some (.fz (.int (i - j))) := rfl
@[simp] theorem dMul_int {i j : Int} : dMul (.int i) (.int j) = if mulOk i j = true then some (.fz (.int (i * j))) else none := rfl
@[simp] theorem dDiv_int {i j : Int} : dDiv (.int i) (.int j) = if 0 < j ∧ j.natAbs.log2 < 9000 then some (.fz (.int (i / j))) else none := rfl
@[simp] theorem dMod_int {i j : Int} : dMod (.int i) (.int j) = if 0 < j then some (.fz (.int (i % j))) else none := rfl
@[simp] theorem dPow_int {i j : Int} : dPow (.int i) (.int j) = if 0 ≤ j ∧ j ≤ 1000000 ∧ i.natAbs < 18446744073709551616 then some (.fz (.int (i ^ j.toNat))) else none := rfl
@[simp] theorem dLt_int {i j : Int} : dLt (.int i) (.int j) = some (.fz (.bool (decide (i < j)))) := rfl
@[simp] theorem dLe_int {i j : Int} : dLe (.int i) (.int j) = some (.fz (.bool (decide (i ≤ j)))) := rfl
@[simp] theorem dGt_int {i j : Int} : dGt (.int i) (.int j) = some (.fz (.bool (decide (j < i)))) := rfl
@[simp] theorem dGe_int {i j : Int} : dGe (.int i) (.int j) = some (.fz (.bool (decide (j ≤ i)))) := rfl
@[simp] theorem shaped_int {i : Int} : SeqAt.shaped (.int i) = true := rfl
@[simp] theorem shaped_none : SeqAt.shaped .none = true := rfl
@[simp] theorem shaped_bool {b : Bool} : SeqAt.shaped (.bool b) = true := rfl
@[simp] theorem dEq_int {i j : Int} : dEq (.int i) (.int j) = some (.fz (.bool (decide (i = j)))) := by
  unfold dEq
  rw [if_pos ⟨rfl, rfl⟩]
  show some (Cell.fz (.bool (i == j))) = _
  congr 3
@[simp] theorem dNe_int {i j : Int} : dNe (.int i) (.int j) = some (.fz (.bool (!decide (i = j)))) := by
  unfold dNe
  rw [if_pos ⟨rfl, rfl⟩]
  show some (Cell.fz (.bool (!(i == j)))) = _
  congr 4
@[simp] theorem dIs_none {d : D} : dIs d .none = some (.fz (.bool (isNone d))) := by cases d <;> rfl
@[simp] theorem dIsNot_none {d : D} : dIsNot d .none = some (.fz (.bool (!isNone d))) := by cases d <;> rfl
@[simp] theorem isNone_none : isNone .none = true := rfl
@[simp] theorem isNone_int {i : Int} : isNone (.int i) = false := rfl
@[simp] theorem isNone_list {i : List D} : isNone (.list i) = false := rfl
@[simp] theorem isNone_tuple {i : List D} : isNone (.tuple i) = false := rfl
@[simp] theorem isNone_str {i : Str} : isNone (.str i) = false := rfl
@[simp] theorem bInt_int {i : Int} : bInt [.int i] = some (.fz (.int i)) := rfl
@[simp] theorem bInt_bool {b : Bool} : bInt [.bool b] = some (.fz (.int (if b = true then 1 else 0))) := by cases b <;> rfl
@[simp] theorem bLen_list {ds : List D} : bLen [.list ds] = some (.fz (.int ds.length)) := rfl
@[simp] theorem bLen_tuple {ds : List D} : bLen [.tuple ds] = some (.fz (.int ds.length)) := rfl
@[simp] theorem bLen_str {z : Str} : bLen [.str z] = if z.length ≤ 16777216 then some (.fz (.int z.length)) else none := by
  show (if z.length ≤ 16777216 then some (z.length : Int) else none).map _ = _
  split <;> rfl
@[simp] theorem bList_list {ds : List D} : bList [.list ds] = some (.ow ds) := rfl
@[simp] theorem bList_tuple {ds : List D} : bList [.tuple ds] = some (.ow ds) := rfl
@[simp] theorem bTuple_list {ds : List D} : bTuple [.list ds] = some (.fz (.tuple ds)) := rfl
@[simp] theorem bTuple_tuple {ds : List D} : bTuple [.tuple ds] = some (.fz (.tuple ds)) := rfl
@[simp] theorem bMax2_int {i j : Int} : bMax2 [.int i, .int j] = some (.fz (.int (if j > i then j else i))) := rfl
@[simp] theorem bMin2_int {i j : Int} : bMin2 [.int i, .int j] = some (.fz (.int (if j < i then j else i))) := rfl
@[simp] theorem bSorted_list {ds : List D} : bSorted [.list ds] = if sortOk ds = true then some (.ow (sortD false ds)) else none := rfl
@[simp] theorem muAppend_one {ds : List D} {d : D} : muAppend ds [d] = if ds.length < 16777216 then some (.none, ds ++ [d]) else none := rfl
@[simp] theorem muInsert_two {ds : List D} {i : Int} {d : D} : muInsert ds [.int i, d] = if ds.length < 16777216 ∧ 0 ≤ i ∧ i < 2 ^ 63 then some (.none, ds.take i.toNat ++ [d] ++ ds.drop i.toNat) else none := rfl
@[simp] theorem itemsD_list {ds : List D} : itemsD (.list ds) = some ds := rfl
@[simp] theorem itemsD_tuple {ds : List D} : itemsD (.tuple ds) = some ds := rfl
@[simp] theorem itemsD_str {z : Str} : itemsD (.str z) = some (signs z) := rfl
@[simp] theorem dSlice_list {ds : List D} {l h : Option Int} : dSlice (.list ds) l h = some (.ow (cutD ds l h)) := rfl
@[simp] theorem dSlice_tuple {ds : List D} {l h : Option Int} : dSlice (.tuple ds) l h = some (.fz (.tuple (cutD ds l h))) := rfl
theorem dIdx_list {ds : List D} {i : Int} : dIdx (.list ds) (.int i) = (atI ds i).map .fz := rfl
theorem dIdx_tuple {ds : List D} {i : Int} : dIdx (.tuple ds) (.int i) = (atI ds i).map .fz := rfl
@[simp] theorem rangeD_length {lo : Int} {n : Nat} : (rangeD lo n).length = n := by simp [rangeD]
@[simp] theorem rangeD_get {lo : Int} {n i : Nat} (h : i < (rangeD lo n).length) : (rangeD lo n)[i] = .int (lo + i) := by simp [rangeD]
theorem mulOk_l {i j : Int} (h0 : 0 ≤ i) (h : i < 18446744073709551616) : mulOk i j = true := by
  unfold mulOk
  have : i.natAbs < 18446744073709551616 := by omega
  simp [this]
theorem mulOk_r {i j : Int} (h0 : 0 ≤ j) (h : j < 18446744073709551616) : mulOk i j = true := by
  unfold mulOk
  have : j.natAbs < 18446744073709551616 := by omega
  simp [this]
/-! ### indices -/
theorem ixN_nat {n k : Nat} (h : k < n) : ixN n (k : Int) = some k := by
  unfold ixN
  rw [if_pos (by omega), if_pos (by omega), Int.toNat_natCast]
theorem ixN_in {n : Nat} {i : Int} (h0 : 0 ≤ i) (h : i < n) : ixN n i = some i.toNat := by
  unfold ixN
  rw [if_pos h0, if_pos h]
theorem atI_nat {α : Type} {xs : List α} {k : Nat} (h : k < xs.length) : atI xs (k : Int) = some xs[k] := by
  unfold atI
  rw [ixN_nat h]
  exact List.getElem?_eq_getElem h
theorem atI_in {α : Type} {xs : List α} {i : Int} (h0 : 0 ≤ i) (h : i < xs.length) : atI xs i = some (xs[i.toNat]'(by omega)) := by
  unfold atI
  rw [ixN_in h0 h]
  exact List.getElem?_eq_getElem _
theorem atI_neg1 {α : Type} {xs : List α} (h : 0 < xs.length) : atI xs (-1) = some (xs[xs.length - 1]'(by omega)) := by
  unfold atI ixN
  rw [if_neg (by omega), if_pos (by omega)]
  have : (-1 + (xs.length : Int)).toNat = xs.length - 1 := by omega
  rw [this]
  exact List.getElem?_eq_getElem _
theorem atI_mem {α : Type} {xs : List α} {i : Int} (h0 : 0 ≤ i) (h : i < xs.length) : ∃ x ∈ xs, atI xs i = some x := ⟨_, List.getElem_mem _, atI_in h0 h⟩
/-- an int of a list of ints, by its place -/
def gi (ns : List Int) (k : Nat) : Int := ns.getD k 0
theorem dIdx_ints {ns : List Int} {k : Nat} (h : k < ns.length) : dIdx (.list (ns.map .int)) (.int k) = some (.fz (.int (gi ns k))) := by
  rw [dIdx_list, atI_nat (by simpa using h)]
  simp [gi, h]
theorem dIdx_intsL {ns : List Int} {k : Nat} (h : k < ns.length) : dIdx (.list (ns.map .int)) (.int (no_index (OfNat.ofNat k))) = some (.fz (.int (gi ns k))) := dIdx_ints h
theorem gi_in {ns : List Int} {b : Int} {k : Nat} (h : ∀ n ∈ ns, 0 ≤ n ∧ n < b) (hb : 0 < b) : 0 ≤ gi ns k ∧ gi ns k < b := by
  unfold gi
  rw [List.getD_eq_getElem?_getD]
  cases e : ns[k]? with
  | none => exact ⟨Int.le_refl _, hb⟩
  | some n => exact h n (List.mem_of_getElem? e)
/-! ### slices -/
theorem cutD_map {α : Type} {f : α → D} {xs : List α} {l h : Option Int} : cutD (xs.map f) l h = ((xs.drop (HT.sIx xs.length 0 l)).take (HT.sIx xs.length xs.length h - HT.sIx xs.length 0 l)).map f := by
  unfold cutD; simp [List.map_drop, List.map_take]
theorem cutD_to {ds : List D} {k : Nat} : cutD ds none (some (k : Int)) = ds.take k := by
  unfold cutD
  rw [HT.sIx_none, HT.sIx_nat, List.drop_zero, Nat.sub_zero]
  rcases Nat.le_total k ds.length with h | h
  · rw [Nat.min_eq_left h]
  · rw [Nat.min_eq_right h, List.take_length, List.take_of_length_le h]
theorem cutD_from {ds : List D} {k : Nat} : cutD ds (some (k : Int)) none = ds.drop k := by
  unfold cutD
  rw [HT.sIx_none, HT.sIx_nat]
  rcases Nat.le_total k ds.length with h | h
  · rw [Nat.min_eq_left h, List.take_of_length_le (by rw [List.length_drop]; exact Nat.le_refl _)]
  · rw [Nat.min_eq_right h, List.drop_length, List.take_nil, List.drop_of_length_le h]
theorem cutD_mid {ds : List D} {k m : Nat} : cutD ds (some (k : Int)) (some (m : Int)) = (ds.drop k).take (m - k) := by
  unfold cutD
  rw [HT.sIx_nat, HT.sIx_nat]
  rcases Nat.le_total k ds.length with h | h
  · rw [Nat.min_eq_left h]
    rcases Nat.le_total m ds.length with h2 | h2
    · rw [Nat.min_eq_left h2]
    · rw [Nat.min_eq_right h2, List.take_of_length_le (by rw [List.length_drop]; omega), List.take_of_length_le (by rw [List.length_drop]; omega)]
  · rw [Nat.min_eq_right h, List.drop_length, List.take_nil, List.drop_of_length_le h, List.take_nil]
theorem cutM_to {α : Type} {f : α → D} {xs : List α} {k : Nat} : cutD (xs.map f) none (some (k : Int)) = (xs.take k).map f := by rw [cutD_to, List.map_take]
theorem cutM_from {α : Type} {f : α → D} {xs : List α} {k : Nat} : cutD (xs.map f) (some (k : Int)) none = (xs.drop k).map f := by rw [cutD_from, List.map_drop]
theorem cutM_mid {α : Type} {f : α → D} {xs : List α} {k m : Nat} : cutD (xs.map f) (some (k : Int)) (some (m : Int)) = ((xs.drop k).take (m - k)).map f := by rw [cutD_mid, List.map_take, List.map_drop]
theorem cutD_sub {ds : List D} {l h : Option Int} : ∀ d ∈ cutD ds l h, d ∈ ds := fun d hd => List.mem_of_mem_drop (List.mem_of_mem_take hd)
theorem cutD_len {ds : List D} {l h : Option Int} : (cutD ds l h).length ≤ ds.length := by
  unfold cutD; simp; omega
end
/-! ### data that equal only themselves -/
mutual
/-- no truth value, no dict -/
def nb : D → Bool
  | .none => true
  | .bool _ => false
  | .int _ => true
  | .str _ => true
  | .list xs => nbAll xs
  | .tuple xs => nbAll xs
  | .dict _ => false
def nbAll : List D → Bool
  | [] => true
  | x :: xs => nb x && nbAll xs
end
mutual
theorem eqv_nb : ∀ a b : D, nb a = true → nb b = true → (PyData.eqv a b = true ↔ a = b)
  | .none, b, _, hb => by cases b <;> simp [PyData.eqv, nb] at hb ⊢
  | .bool _, _, h, _ => by simp [nb] at h
  | .dict _, _, h, _ => by simp [nb] at h
  | .int i, b, _, hb => by cases b <;> simp [PyData.eqv, nb] at hb ⊢
  | .str i, b, _, hb => by cases b <;> simp [PyData.eqv, nb] at hb ⊢
  | .list xs, b, ha, hb => by
    cases b <;> simp [PyData.eqv, nb] at ha hb ⊢
    exact eqvAll_nb xs _ ha hb
  | .tuple xs, b, ha, hb => by
    cases b <;> simp [PyData.eqv, nb] at ha hb ⊢
    exact eqvAll_nb xs _ ha hb
theorem eqvAll_nb : ∀ a b : List D, nbAll a = true → nbAll b = true → (PyData.eqvAll a b = true ↔ a = b)
  | [], b, _, hb => by cases b <;> simp [PyData.eqvAll]
  | x :: xs, b, ha, hb => by
    cases b with
    | nil => simp [PyData.eqvAll]
    | cons y ys =>
      simp only [nbAll, Bool.and_eq_true] at ha hb
      simp only [PyData.eqvAll, Bool.and_eq_true, List.cons.injEq]
      rw [eqv_nb x y ha.1 hb.1, eqvAll_nb xs ys ha.2 hb.2]
end
/-- plain data: comparable, equal only to itself, no deeper than k -/
def Nice (k : Nat) (d : D) : Prop := d.canLay0 = true ∧ nb d = true ∧ d.depth ≤ k
def NiceAll (k : Nat) (ds : List D) : Prop := ∀ d ∈ ds, Nice k d
section
variable {k : Nat} {e : LE} {X : Str → Prop} {P : Cell → LE → Prop}
theorem Nice.int {i : Int} : Nice k (.int i) := ⟨rfl, rfl, Nat.zero_le _⟩
theorem Nice.none : Nice k .none := ⟨rfl, rfl, Nat.zero_le _⟩
theorem Nice.str {z : Str} (h : (PyData.str z).canLay0 = true) : Nice k (.str z) := ⟨h, rfl, Nat.zero_le _⟩
theorem niceAll_parts {ds : List D} (h : NiceAll k ds) : PyData.canLayAll0 ds = true ∧ nbAll ds = true ∧ PyData.depthAll ds ≤ k := by
  induction ds with
  | nil => exact ⟨rfl, rfl, Nat.zero_le _⟩
  | cons d ds ih =>
    obtain ⟨h1, h2, h3⟩ := h d (by simp)
    obtain ⟨i1, i2, i3⟩ := ih fun x hx => h x (by simp [hx])
    refine ⟨by simp [PyData.canLayAll0, h1, i1], by simp [nbAll, h2, i2], ?_⟩
    rw [PyData.depthAll]
    omega
theorem Nice.list {ds : List D} (h : NiceAll k ds) : Nice (k + 1) (.list ds) := by
  obtain ⟨h1, h2, h3⟩ := niceAll_parts h
  exact ⟨by rw [PyData.canLay0]; exact h1, by rw [nb]; exact h2, by rw [PyData.depth]; omega⟩
theorem Nice.tuple {ds : List D} (h : NiceAll k ds) : Nice (k + 1) (.tuple ds) := by
  obtain ⟨h1, h2, h3⟩ := niceAll_parts h
  exact ⟨by rw [PyData.canLay0]; exact h1, by rw [nb]; exact h2, by rw [PyData.depth]; omega⟩
theorem Nice.mono {m : Nat} {d : D} (h : Nice k d) (hk : k ≤ m) : Nice m d := ⟨h.1, h.2.1, Nat.le_trans h.2.2 hk⟩
theorem Nice.shaped {d : D} (h : Nice k d) (hk : k ≤ 64) : SeqAt.shaped d = true := by
  unfold SeqAt.shaped
  rw [h.1, Bool.true_and]
  exact decide_eq_true (Nat.le_trans h.2.2 hk)
theorem NiceAll.nil : NiceAll k [] := fun _ h => by cases h
theorem NiceAll.cons {d : D} {ds : List D} (h : Nice k d) (hs : NiceAll k ds) : NiceAll k (d :: ds) := fun x hx => by
  rcases List.mem_cons.mp hx with q | q
  · rw [q]; exact h
  · exact hs x q
theorem NiceAll.append {ds es : List D} (h : NiceAll k ds) (hs : NiceAll k es) : NiceAll k (ds ++ es) := fun x hx => by
  rcases List.mem_append.mp hx with q | q
  · exact h x q
  · exact hs x q
open Classical in
theorem dEq_nice {a b : D} (ha : Nice 64 a) (hb : Nice 64 b) : dEq a b = some (.fz (.bool (decide (a = b)))) := by
  unfold dEq
  rw [if_pos ⟨ha.shaped (Nat.le_refl _), hb.shaped (Nat.le_refl _)⟩]
  have := eqv_nb a b ha.2.1 hb.2.1
  by_cases q : a = b
  · rw [decide_eq_true q, this.mpr q]
  · rw [decide_eq_false q, Bool.eq_false_iff.mpr fun z => q (this.mp z)]
open Classical in
theorem dNe_nice {a b : D} (ha : Nice 64 a) (hb : Nice 64 b) : dNe a b = some (.fz (.bool (!decide (a = b)))) := by
  unfold dNe
  rw [if_pos ⟨ha.shaped (Nat.le_refl _), hb.shaped (Nat.le_refl _)⟩]
  have := eqv_nb a b ha.2.1 hb.2.1
  by_cases q : a = b
  · rw [decide_eq_true q, this.mpr q]
  · rw [decide_eq_false q, Bool.eq_false_iff.mpr fun z => q (this.mp z)]
open Classical in
theorem dIn_list {d : D} {ds : List D} (hd : Nice 63 d) (hs : NiceAll 63 ds) : dIn d (.list ds) = some (decide (d ∈ ds)) := by
  have e : dIn d (.list ds) = if SeqAt.shaped d = true ∧ SeqAt.shaped (.list ds) = true then some (ds.any fun z => PyData.eqv z d) else none := by cases d <;> rfl
  rw [e, if_pos ⟨hd.shaped (by omega), (Nice.list hs).shaped (by omega)⟩]
  congr 1
  by_cases q : d ∈ ds
  · rw [decide_eq_true q, List.any_eq_true]
    exact ⟨d, q, (eqv_nb d d hd.2.1 hd.2.1).mpr rfl⟩
  · rw [decide_eq_false q, Bool.eq_false_iff]
    intro z
    obtain ⟨x, hx, hq⟩ := List.any_eq_true.mp z
    exact q (by rw [← (eqv_nb x d (hs x hx).2.1 hd.2.1).mp hq]; exact hx)
open Classical in
theorem dInC_list {d : D} {ds : List D} (hd : Nice 63 d) (hs : NiceAll 63 ds) : dInC d (.list ds) = some (.fz (.bool (decide (d ∈ ds)))) := by
  unfold dInC; rw [dIn_list hd hs]; rfl
open Classical in
theorem dNotInC_list {d : D} {ds : List D} (hd : Nice 63 d) (hs : NiceAll 63 ds) : dNotInC d (.list ds) = some (.fz (.bool (!decide (d ∈ ds)))) := by
  unfold dNotInC; rw [dIn_list hd hs]; rfl
open Classical in
theorem dIn_tuple {d : D} {ds : List D} (hd : Nice 63 d) (hs : NiceAll 63 ds) (fd : flatD d = true) (fs : ds.all flatD = true) : dIn d (.tuple ds) = some (decide (d ∈ ds)) := by
  have e : dIn d (.tuple ds) = if flatD d = true ∧ ds.all flatD = true then some (ds.any fun z => PyData.eqv z d) else none := by cases d <;> rfl
  rw [e, if_pos ⟨fd, fs⟩]
  congr 1
  by_cases q : d ∈ ds
  · rw [decide_eq_true q, List.any_eq_true]
    exact ⟨d, q, (eqv_nb d d hd.2.1 hd.2.1).mpr rfl⟩
  · rw [decide_eq_false q, Bool.eq_false_iff]
    intro z
    obtain ⟨x, hx, hq⟩ := List.any_eq_true.mp z
    exact q (by rw [← (eqv_nb x d (hs x hx).2.1 hd.2.1).mp hq]; exact hx)
open Classical in
theorem dInC_tuple {d : D} {ds : List D} (hd : Nice 63 d) (hs : NiceAll 63 ds) (fd : flatD d = true) (fs : ds.all flatD = true) : dInC d (.tuple ds) = some (.fz (.bool (decide (d ∈ ds)))) := by
  unfold dInC; rw [dIn_tuple hd hs fd fs]; rfl
open Classical in
theorem dNotInC_tuple {d : D} {ds : List D} (hd : Nice 63 d) (hs : NiceAll 63 ds) (fd : flatD d = true) (fs : ds.all flatD = true) : dNotInC d (.tuple ds) = some (.fz (.bool (!decide (d ∈ ds)))) := by
  unfold dNotInC; rw [dIn_tuple hd hs fd fs]; rfl
end
end DL

set_option Elab.async false
set_option linter.all false
set_option maxRecDepth 100000
set_option maxHeartbeats 4000000
/-! DM, part d: sorted ints, sorted texts. -/
namespace DL
open PySem PySem.Spec L2 PySem.W
def leI (a b : Int) : Bool := decide (a ≤ b)
def leS (a b : Str) : Bool := decide (a.cps.toList ≤ b.cps.toList)
def sortI (ns : List Int) : List Int := ns.mergeSort leI
def sortS (ns : List Str) : List Str := ns.mergeSort leS
theorem sortD_ints {ns : List Int} : sortD false (ns.map .int) = (sortI ns).map .int := by
  unfold sortD sortI
  refine (List.map_mergeSort fun a _ b _ => ?_).symm
  have := congrFun (congrFun (dataLe_int (β := Int) (fun x => x)) a) b
  unfold leI
  rw [← this]; rfl
theorem sortD_strs {ns : List Str} : sortD false (ns.map .str) = (sortS ns).map .str := by
  unfold sortD sortS
  refine (List.map_mergeSort fun a _ b _ => ?_).symm
  have := congrFun (congrFun (dataLe_str (β := Str) (fun x => x)) a) b
  unfold leS
  rw [← this]; rfl
theorem sortOk_ints {ns : List Int} : sortOk (ns.map .int) = true := by
  unfold sortOk
  simp [alike, PyData.depth]
theorem sortOk_strs {ns : List Str} : sortOk (ns.map .str) = true := by
  unfold sortOk
  simp [alike, PyData.depth]
theorem sortI_perm (ns : List Int) : (sortI ns).Perm ns := List.mergeSort_perm _ _
theorem sortS_perm (ns : List Str) : (sortS ns).Perm ns := List.mergeSort_perm _ _
theorem sortI_pw (ns : List Int) : (sortI ns).Pairwise (· ≤ ·) := by
  have := List.pairwise_mergeSort (le := leI) (fun a b c h1 h2 => by simp [leI] at *; omega) (fun a b => by simp [leI]; omega) ns
  exact this.imp fun h => by simpa [leI] using h
theorem sortS_pw (ns : List Str) : (sortS ns).Pairwise (fun a b => a.cps.toList ≤ b.cps.toList) := by
  have := List.pairwise_mergeSort (le := leS) (fun a b c h1 h2 => by simp [leS] at *; exact List.le_trans h1 h2) (fun a b => by simp [leS]; exact List.le_total _ _) ns
  exact this.imp fun h => by simpa [leS] using h
theorem sortI_uniq {xs ys : List Int} (h : xs.Perm ys) (h1 : xs.Pairwise (· ≤ ·)) (h2 : ys.Pairwise (· ≤ ·)) : xs = ys :=
  List.Perm.eq_of_pairwise (le := (· ≤ ·)) (fun a b _ _ h1 h2 => by omega) h1 h2 h
theorem sortI_eq {xs ys : List Int} : sortI xs = sortI ys ↔ xs.Perm ys := by
  constructor
  · intro h
    exact (sortI_perm xs).symm.trans (h ▸ sortI_perm ys)
  · intro h
    exact sortI_uniq (((sortI_perm xs).trans h).trans (sortI_perm ys).symm) (sortI_pw xs) (sortI_pw ys)
theorem sortI_of {xs ys : List Int} (h : xs.Perm ys) (h2 : ys.Pairwise (· ≤ ·)) : sortI xs = ys := sortI_uniq ((sortI_perm xs).trans h) (sortI_pw xs) h2
theorem sortS_eq {xs ys : List Str} : sortS xs = sortS ys ↔ xs.Perm ys := by
  constructor
  · intro h
    exact (sortS_perm xs).symm.trans (h ▸ sortS_perm ys)
  · intro h
    refine List.Perm.eq_of_pairwise (le := fun a b : Str => a.cps.toList ≤ b.cps.toList) (fun a b _ _ h1 h2 => ?_) (sortS_pw xs) (sortS_pw ys) (((sortS_perm xs).trans h).trans (sortS_perm ys).symm)
    exact str_of_cps (List.le_antisymm h1 h2)
@[simp] theorem bSorted_ints {ns : List Int} : bSorted [.list (ns.map .int)] = some (.ow ((sortI ns).map .int)) := by
  rw [bSorted_list, if_pos sortOk_ints, sortD_ints]
@[simp] theorem bSorted_strs {ns : List Str} : bSorted [.list (ns.map .str)] = some (.ow ((sortS ns).map .str)) := by
  rw [bSorted_list, if_pos sortOk_strs, sortD_strs]
end DL

set_option Elab.async false
set_option linter.all false
set_option maxRecDepth 100000
set_option maxHeartbeats 4000000
/-! DM, part e: kinds, first places. -/
namespace DL
open PySem PySem.Spec L2
@[simp] theorem isi_list_list {ds : List D} : isiD "list" (.list ds) = true := rfl
@[simp] theorem isi_list_tuple {ds : List D} : isiD "list" (.tuple ds) = false := rfl
@[simp] theorem isi_list_str {z : Str} : isiD "list" (.str z) = false := rfl
@[simp] theorem isi_list_int {z : Int} : isiD "list" (.int z) = false := rfl
@[simp] theorem isi_list_bool {z : Bool} : isiD "list" (.bool z) = false := rfl
@[simp] theorem isi_list_none : isiD "list" .none = false := rfl
@[simp] theorem isi_dict_list {ds : List D} : isiD "dict" (.list ds) = false := rfl
@[simp] theorem isi_dict_tuple {ds : List D} : isiD "dict" (.tuple ds) = false := rfl
@[simp] theorem isi_dict_str {z : Str} : isiD "dict" (.str z) = false := rfl
@[simp] theorem isi_dict_int {z : Int} : isiD "dict" (.int z) = false := rfl
@[simp] theorem isi_dict_none : isiD "dict" .none = false := rfl
@[simp] theorem isi_tuple_tuple {ds : List D} : isiD "tuple" (.tuple ds) = true := rfl
@[simp] theorem isi_tuple_list {ds : List D} : isiD "tuple" (.list ds) = false := rfl
@[simp] theorem isi_tuple_str {z : Str} : isiD "tuple" (.str z) = false := rfl
@[simp] theorem isi_tuple_int {z : Int} : isiD "tuple" (.int z) = false := rfl
@[simp] theorem isi_tuple_none : isiD "tuple" .none = false := rfl
@[simp] theorem isi_bool_bool {z : Bool} : isiD "bool" (.bool z) = true := rfl
@[simp] theorem isi_str_str {z : Str} : isiD "str" (.str z) = true := rfl
@[simp] theorem isi_str_tuple {z : List D} : isiD "str" (.tuple z) = false := rfl
theorem dIdx_0 {a : D} {r : List D} : dIdx (.list (a :: r)) (.int 0) = some (.fz a) := by
  rw [dIdx_list, show (0 : Int) = ((0 : Nat) : Int) from rfl, DL.atI_nat (by simp)]; rfl
theorem dIdx_1 {a b : D} {r : List D} : dIdx (.list (a :: b :: r)) (.int 1) = some (.fz b) := by
  rw [dIdx_list, show (1 : Int) = ((1 : Nat) : Int) from rfl, DL.atI_nat (by simp)]; rfl
theorem dIdx_2 {a b c : D} {r : List D} : dIdx (.list (a :: b :: c :: r)) (.int 2) = some (.fz c) := by
  rw [dIdx_list, show (2 : Int) = ((2 : Nat) : Int) from rfl, DL.atI_nat (by simp)]; rfl
theorem lift_map {α : Type} {f : α → D} {R : α → Prop} : ∀ {ys : List D}, (∀ y ∈ ys, ∃ x, y = f x ∧ R x) → ∃ xs : List α, ys = xs.map f ∧ ∀ x ∈ xs, R x
  | [], _ => ⟨[], rfl, fun _ h => by cases h⟩
  | y :: ys, h => by
    obtain ⟨x, rfl, hx⟩ := h y (by simp)
    obtain ⟨xs, rfl, hxs⟩ := lift_map (f := f) (R := R) (ys := ys) fun z hz => h z (by simp [hz])
    exact ⟨x :: xs, rfl, fun z hz => by
      rcases List.mem_cons.mp hz with q | q
      · rw [q]; exact hx
      · exact hxs z q⟩
/-- some item of a list, whichever -/
theorem dIdx_mem {ds : List D} {i : Int} (h0 : 0 ≤ i) (h : i < ds.length) : ∃ d ∈ ds, dIdx (.list ds) (.int i) = some (.fz d) := by
  obtain ⟨d, hd, e⟩ := atI_mem h0 h
  exact ⟨d, hd, by rw [dIdx_list, e]; rfl⟩
theorem dIdx_memT {ds : List D} {i : Int} (h0 : 0 ≤ i) (h : i < ds.length) : ∃ d ∈ ds, dIdx (.tuple ds) (.int i) = some (.fz d) := by
  obtain ⟨d, hd, e⟩ := atI_mem h0 h
  exact ⟨d, hd, by rw [dIdx_tuple, e]; rfl⟩
theorem cut_ints {ns : List Int} {l h : Option Int} {d : D} (hd : d ∈ cutD (ns.map .int) l h) : ∃ n ∈ ns, d = .int n := by
  obtain ⟨n, hn, e⟩ := List.mem_map.mp (cutD_sub d hd)
  exact ⟨n, hn, e.symm⟩
theorem dNe_nil {ds : List D} (h : NiceAll 63 ds) : dNe (.list ds) (.list []) = some (.fz (.bool (!ds.isEmpty))) := by
  refine (dNe_nice (Nice.list h) ((Nice.list (k := 0) .nil).mono (by omega))).trans ?_
  cases ds <;> simp
theorem dEq_nil {ds : List D} (h : NiceAll 63 ds) : dEq (.list ds) (.list []) = some (.fz (.bool ds.isEmpty)) := by
  refine (dEq_nice (Nice.list h) ((Nice.list (k := 0) .nil).mono (by omega))).trans ?_
  cases ds <;> simp
theorem dIdx_list_in {α : Type} {f : α → D} {xs : List α} {i : Int} (h0 : 0 ≤ i) (h : i < xs.length) : dIdx (.list (xs.map f)) (.int i) = some (.fz (f (xs[i.toNat]'(by omega)))) := by
  rw [dIdx_list, atI_in h0 (by simpa using h)]; simp
theorem dIdx_last {α : Type} {f : α → D} {xs : List α} (h : 0 < xs.length) : dIdx (.list (xs.map f)) (.int (-1)) = some (.fz (f (xs[xs.length - 1]'(by omega)))) := by
  rw [dIdx_list, atI_neg1 (by simpa using h)]; simp
theorem pq_step {f g : ST} {e : LE} {p : Pst} (J : LE → Prop) (h : Pq (f e) { p with nx := J }) (k : ∀ e, J e → Pq (g e) p) : Pq (sSeq f g e) p := by rw [pq_seq]; exact h.imp k (fun _ z => z) (fun _ z => z) (fun _ z => z) (fun _ z => z)
theorem pq_mid {o : Out} {p : Pst} (J : LE → Prop) (h : Pq o { p with nx := J }) (k : ∀ e, J e → p.nx e) : Pq o p := h.imp k (fun _ z => z) (fun _ z => z) (fun _ z => z) (fun _ z => z)
theorem mod_in {n m : Int} (hm : 0 < m) : 0 ≤ n % m ∧ n % m < m := ⟨Int.emod_nonneg _ (by omega), Int.emod_lt_of_pos _ hm⟩
end DL

set_option Elab.async false
set_option linter.all false
set_option maxRecDepth 100000
set_option maxHeartbeats 4000000
namespace Com
open PySem PySem.Spec L2 DL
def b_law_own (gr : Fn) : ST :=
 (sSeq (sIf (bnd (isiM "list" (pk 0)) asB)
 (sRet (mComp [3] (setD 3) (ret true) (bnd (mCall gr (mCons (fr 3) mNil)) dat) (mIter (pk 0))))
 sNil)
 (sSeq (sIf (bnd (isiM "dict" (pk 0)) asB)
 sNo
 sNil)
 (sSeq (sIf (mAnd (bnd (isiM "tuple" (pk 0)) asB) (mNot (mAnd (bnd (op2 dGt (bnd (opL bLen (mCons (pk 0) mNil)) dat) (ret (.int 0))) asB) (bnd (isiM "str" (bnd (op2 dIdx (pk 0) (ret (.int 0))) dat)) asB))))
 (sRet (opL bTuple (mCons (bnd (mComp [3] (setD 3) (ret true) (bnd (mCall gr (mCons (fr 3) mNil)) dat) (mIter (pk 0))) dat) mNil)))
 sNil)
 (sRet (mvo 0)))))
def g_law_own_r : Nat → Fn
  | 0 => fun _ => .no
  | n + 1 => runF 4 (b_law_own (g_law_own_r n))
def g_law_own : Fn := g_law_own_r 6
def b_law_cell_at : ST :=
 (sSeq (sIf (bnd (op2 dLt (pk 1) (bnd (opL bLen (mCons (pk 0) mNil)) dat)) asB)
 (sRet (op2 dIdx (pk 0) (pk 1)))
 sNil)
 (sRet (fzc (ret (.int 0)))))
def g_law_cell_at : Fn := runF 2 b_law_cell_at
def b_law_a_draws : ST :=
 (sSeq (sSet 3 (mLst mNil))
 (sSeq (sSet 4 (op2 dMul (pk 0) (bnd (opL bInt (mCons (bnd (op2 dGe (pk 0) (bnd (op2 dPow (ret (.int 10)) (ret (.int 18))) dat)) dat) mNil)) dat)))
 (sSeq (sSet 5 (op2 dMod (pk 0) (ret (.int 2305843009213693951))))
 (sSeq (sFor (setD 6) (mRange1 (mCons (bnd (op2 dAdd (pk 1) (ret (.int 3))) dat) mNil))
 (sSeq (sSet 5 (op2 dMod (bnd (op2 dAdd (bnd (op2 dAdd (bnd (op2 dAdd (bnd (op2 dMul (pk 5) (pk 5)) dat) (bnd (op2 dMul (ret (.int 48271)) (pk 5)) dat)) dat) (pk 6)) dat) (ret (.int 1))) dat) (ret (.int 2305843009213693951))))
 (sIf (mAnd (bnd (op2 dGt (pk 6) (ret (.int 2))) asB) (bnd (op2 dGt (pk 4) (ret (.int 0))) asB))
 (sSeq (sDrop (mMut 3 muAppend (mCons (bnd (op2 dMod (pk 4) (pk 2)) dat) mNil)))
 (sSet 4 (op2 dDiv (pk 4) (pk 2))))
 (sIf (bnd (op2 dGt (pk 6) (ret (.int 2))) asB)
 (sDrop (mMut 3 muAppend (mCons (bnd (op2 dMod (bnd (op2 dDiv (pk 5) (ret (.int 4096))) dat) (pk 2)) dat) mNil)))
 sNil))))
 (sRet (mvo 3))))))
def g_law_a_draws : Fn := runF 7 b_law_a_draws
def b_law_a_names : ST :=
 (sSeq (sSet 2 (fzc (ret (.str "abcdefghijklmnopqrstuvwxyz"))))
 (sSeq (sSet 3 (mComp [9] (setD 9) (ret true) (bnd (op2 dIdx (pk 2) (bnd (op2 dMod (pk 9) (ret (.int 26))) dat)) dat) (mIter (bnd (opS (pk 0) (ret none) (mPart (bnd (op2 dAdd (ret (.int 1)) (bnd (op2 dMod (bnd (op2 dIdx (pk 0) (ret (.int 8))) dat) (ret (.int 8))) dat)) dat))) dat))))
 (sSeq (sSet 4 (op2 dMod (bnd (op2 dIdx (pk 0) (ret (.int 9))) dat) (bnd (opL bLen (mCons (pk 3) mNil)) dat)))
 (sSeq (sSet 5 (op2 dIdx (bnd (mLst (mCons (ret (.int 1)) (mCons (ret (.int 3)) (mCons (ret (.int 5)) (mCons (ret (.int 7)) (mCons (ret (.int 9)) (mCons (ret (.int 11)) mNil))))))) dat) (bnd (op2 dMod (bnd (op2 dIdx (pk 0) (ret (.int 10))) dat) (ret (.int 6))) dat)))
 (sSeq (sSet 6 (mLst mNil))
 (sSeq (sFor (setD 7) (mRange1 (mCons (pk 1) mNil))
 (sSeq (sSet 8 (opL bList (mCons (pk 3) mNil)))
 (sSeq (sSetIx 8 (bnd (op2 dIdx (pk 2) (bnd (op2 dMod (bnd (op2 dAdd (bnd (op2 dIdx (pk 0) (ret (.int 11))) dat) (bnd (op2 dMul (pk 5) (pk 7)) dat)) dat) (ret (.int 26))) dat)) dat) (pk 4))
 (sSeq (sIf (bnd (op2 dEq (bnd (op2 dMod (bnd (op2 dIdx (pk 0) (ret (.int 12))) dat) (ret (.int 2))) dat) (ret (.int 0))) asB)
 (sSet 8 (op2 dAdd (bnd (opS (pk 8) (mPart (pk 4)) (mPart (bnd (op2 dAdd (pk 4) (ret (.int 1))) dat))) dat) (bnd (opS (pk 8) (ret none) (mPart (bnd (op2 dMod (bnd (op2 dIdx (pk 0) (bnd (op2 dAdd (ret (.int 13)) (pk 7)) dat)) dat) (ret (.int 8))) dat))) dat)))
 sNil)
 (sDrop (mMut 6 muInsert (mCons (bnd (op2 dMod (bnd (op2 dIdx (pk 0) (bnd (op2 dAdd (ret (.int 14)) (pk 7)) dat)) dat) (bnd (op2 dAdd (bnd (opL bLen (mCons (pk 6) mNil)) dat) (ret (.int 1))) dat)) dat) (mCons (bnd (opSt sJoin (ret (.str "")) (bnd (opS (pk 8) (ret none) (mPart (ret (.int 8)))) dat)) dat) mNil))))))))
 (sRet (mvo 6))))))))
def g_law_a_names : Fn := runF 10 b_law_a_names
def b_law_table_0 : ST :=
 (sSet 3 (mCall g_law_a_draws (mCons (bnd (mCall g_law_cell_at (mCons (fr 0) (mCons (fr 1) mNil))) dat) (mCons (ret (.int 24)) (mCons (ret (.int 1000)) mNil)))))
def b_law_table_1 : ST :=
 (sSet 4 (op2 dIdx (bnd (mLst (mCons (bnd (op2 dAdd (ret (.int 1)) (bnd (op2 dMod (bnd (op2 dIdx (pk 3) (ret (.int 21))) dat) (ret (.int 8))) dat)) dat) (mCons (bnd (op2 dAdd (ret (.int 1)) (bnd (op2 dMod (bnd (op2 dIdx (pk 3) (ret (.int 21))) dat) (ret (.int 4))) dat)) dat) mNil))) dat) (bnd (op2 dMod (bnd (op2 dIdx (pk 3) (ret (.int 22))) dat) (ret (.int 2))) dat)))
def b_law_table_2 : ST :=
 (sSet 5 (opL bTuple (mCons (bnd (mCall g_law_a_names (mCons (fr 3) (mCons (fr 4) mNil))) dat) mNil)))
def b_law_table_3 : ST :=
 (sSet 6 (op2 dIdx (bnd (mLst (mCons (bnd (op2 dMod (bnd (op2 dIdx (pk 3) (ret (.int 20))) dat) (ret (.int 8))) dat) (mCons (bnd (op2 dMod (bnd (op2 dIdx (pk 3) (ret (.int 20))) dat) (ret (.int 25))) dat) (mCons (bnd (op2 dMod (bnd (op2 dIdx (pk 3) (ret (.int 20))) dat) (bnd (op2 dAdd (pk 2) (ret (.int 1))) dat)) dat) mNil)))) dat) (bnd (op2 dMod (bnd (op2 dDiv (bnd (op2 dIdx (pk 3) (ret (.int 22))) dat) (ret (.int 2))) dat) (ret (.int 3))) dat)))
def b_law_table_4 : ST :=
 (sIf (mAnd (bnd (op2 dGt (pk 2) (ret (.int 24))) asB) (bnd (op2 dEq (bnd (op2 dMod (bnd (op2 dDiv (bnd (op2 dIdx (pk 3) (ret (.int 22))) dat) (ret (.int 6))) dat) (ret (.int 8))) dat) (ret (.int 0))) asB))
 (sSet 6 (op2 dAdd (ret (.int 150)) (bnd (op2 dMod (bnd (op2 dIdx (pk 3) (ret (.int 20))) dat) (ret (.int 51))) dat)))
 sNil)
def b_law_table_5 : ST :=
 (sSet 7 (op2 dIdx (bnd (mLst (mCons (ret (.int 2)) (mCons (ret (.int 9)) (mCons (bnd (op2 dPow (ret (.int 10)) (ret (.int 30))) dat) (mCons (ret (.int 3)) mNil))))) dat) (bnd (op2 dMod (bnd (op2 dIdx (pk 3) (ret (.int 23))) dat) (ret (.int 4))) dat)))
def b_law_table_6 : ST :=
 (sSet 8 (mLst mNil))
def b_law_table_7 : ST :=
 (sSet 9 (mCall g_law_a_draws (mCons (bnd (mCall g_law_cell_at (mCons (fr 0) (mCons (bnd (op2 dAdd (pk 1) (ret (.int 1))) dat) mNil))) dat) (mCons (bnd (op2 dMul (pk 6) (pk 4)) dat) (mCons (bnd (op2 dPow (ret (.int 10)) (ret (.int 9))) dat) mNil)))))
def b_law_table_8 : ST :=
 (sSet 11 (mLst mNil))
def b_law_table_9 : ST :=
 (sSeq (sSet 13 (op2 dSub (bnd (op2 dMod (bnd (op2 dDiv (pk 12) (ret (.int 8))) dat) (bnd (op2 dAdd (bnd (op2 dMul (ret (.int 2)) (pk 7)) dat) (ret (.int 1))) dat)) dat) (pk 7)))
 (sSeq (sIf (bnd (op2 dEq (bnd (op2 dMod (pk 12) (ret (.int 8))) dat) (ret (.int 1))) asB)
 (sSet 13 (op2 dSub (bnd (op2 dMod (bnd (op2 dMul (pk 12) (bnd (op2 dAdd (bnd (op2 dPow (ret (.int 10)) (ret (.int 22))) dat) (ret (.int 1))) dat)) dat) (bnd (op2 dAdd (bnd (op2 dMul (ret (.int 2)) (pk 7)) dat) (ret (.int 1))) dat)) dat) (pk 7)))
 sNil)
 (sDrop (mMut 11 muAppend (mCons (bnd (op2 dIdx (bnd (mLst (mCons (ret .none) (mCons (fr 13) mNil))) dat) (bnd (opL bInt (mCons (bnd (op2 dGt (bnd (op2 dMod (pk 12) (ret (.int 8))) dat) (ret (.int 0))) dat) mNil)) dat)) dat) mNil)))))
def b_law_table_10 : ST :=
 (sFor (setD 12) (mIter (bnd (opS (pk 9) (mPart (bnd (op2 dMul (pk 10) (pk 4)) dat)) (mPart (bnd (op2 dAdd (bnd (op2 dMul (pk 10) (pk 4)) dat) (pk 4)) dat))) dat))
 b_law_table_9)
def b_law_table_11 : ST :=
 (sDrop (mMut 8 muAppend (mCons (bnd (opL bTuple (mCons (pk 11) mNil)) dat) mNil)))
def b_law_table_12 : ST :=
 (sSeq b_law_table_8
 (sSeq b_law_table_10
 b_law_table_11))
def b_law_table_13 : ST :=
 (sFor (setD 10) (mRange1 (mCons (pk 6) mNil))
 b_law_table_12)
def b_law_table_14 : ST :=
 (sRet (fzc (mTup (mCons (fr 5) (mCons (fr 8) mNil)))))
def b_law_table : ST :=
 (sSeq b_law_table_0
 (sSeq b_law_table_1
 (sSeq b_law_table_2
 (sSeq b_law_table_3
 (sSeq b_law_table_4
 (sSeq b_law_table_5
 (sSeq b_law_table_6
 (sSeq b_law_table_7
 (sSeq b_law_table_13
 b_law_table_14)))))))))
def g_law_table : Fn := runF 14 b_law_table
def b_column : ST :=
 (sSeq (sIf (bnd (op2 dNotInC (pk 1) (bnd (op2 dIdx (pk 0) (ret (.int 0))) dat)) asB)
 (sRaise "NoName")
 sNil)
 (sRet (opTu tIndex (bnd (op2 dIdx (pk 0) (ret (.int 0))) dat) (pk 1))))
def g_column : Fn := runF 2 b_column
def b_need_names : ST :=
 (sFor (setD 2) (mIter (fr 1))
 (sDrop (mCall g_column (mCons (fr 0) (mCons (fr 2) mNil)))))
def g_need_names : Fn := runF 3 b_need_names
def b_worth : ST :=
 (sRet (op2 dIdx (bnd (op2 dIdx (bnd (op2 dIdx (pk 0) (ret (.int 1))) dat) (pk 1)) dat) (bnd (mCall g_column (mCons (fr 0) (mCons (fr 2) mNil))) dat)))
def g_worth : Fn := runF 3 b_worth
def b_parts_of : ST :=
 (sSeq (sDrop (mCall g_need_names (mCons (fr 0) (mCons (fr 1) mNil))))
 (sSeq (sSet 2 (ret (.gd [])))
 (sSeq (sFor (setD 3) (mRange1 (mCons (bnd (opL bLen (mCons (bnd (op2 dIdx (pk 0) (ret (.int 1))) dat) mNil)) dat) mNil))
 (sGroup 2 3 (bnd (opL bTuple (mCons (bnd (mComp [5] (setD 5) (ret true) (bnd (mCall g_worth (mCons (fr 0) (mCons (fr 3) (mCons (fr 5) mNil)))) dat) (mIter (pk 1))) dat) mNil)) dat)))
 (sRet (mComp [4] (setD 4) (ret true) (bnd (opL bList (mCons (pk 4) mNil)) dat) (mVals 2))))))
def g_parts_of : Fn := runF 6 b_parts_of
def b_law_a_table : ST :=
 (sSeq (sSet 3 (mCall g_law_a_draws (mCons (bnd (mCall g_law_cell_at (mCons (fr 0) (mCons (fr 1) mNil))) dat) (mCons (ret (.int 24)) (mCons (ret (.int 1000)) mNil)))))
 (sSeq (sSet 4 (op2 dIdx (bnd (mLst (mCons (bnd (op2 dAdd (ret (.int 1)) (bnd (op2 dMod (bnd (op2 dIdx (pk 3) (ret (.int 21))) dat) (ret (.int 8))) dat)) dat) (mCons (bnd (op2 dAdd (ret (.int 1)) (bnd (op2 dMod (bnd (op2 dIdx (pk 3) (ret (.int 21))) dat) (ret (.int 4))) dat)) dat) mNil))) dat) (bnd (op2 dMod (bnd (op2 dIdx (pk 3) (ret (.int 22))) dat) (ret (.int 2))) dat)))
 (sSeq (sSet 5 (opL bTuple (mCons (bnd (mCall g_law_a_names (mCons (fr 3) (mCons (fr 4) mNil))) dat) mNil)))
 (sSeq (sSet 6 (op2 dIdx (bnd (mLst (mCons (bnd (op2 dMod (bnd (op2 dIdx (pk 3) (ret (.int 20))) dat) (ret (.int 8))) dat) (mCons (bnd (op2 dMod (bnd (op2 dIdx (pk 3) (ret (.int 20))) dat) (ret (.int 25))) dat) (mCons (bnd (op2 dMod (bnd (op2 dIdx (pk 3) (ret (.int 20))) dat) (bnd (op2 dAdd (pk 2) (ret (.int 1))) dat)) dat) mNil)))) dat) (bnd (op2 dMod (bnd (op2 dDiv (bnd (op2 dIdx (pk 3) (ret (.int 22))) dat) (ret (.int 2))) dat) (ret (.int 3))) dat)))
 (sSeq (sIf (mAnd (bnd (op2 dGt (pk 2) (ret (.int 24))) asB) (bnd (op2 dEq (bnd (op2 dMod (bnd (op2 dDiv (bnd (op2 dIdx (pk 3) (ret (.int 22))) dat) (ret (.int 6))) dat) (ret (.int 8))) dat) (ret (.int 0))) asB))
 (sSet 6 (op2 dAdd (ret (.int 150)) (bnd (op2 dMod (bnd (op2 dIdx (pk 3) (ret (.int 20))) dat) (ret (.int 51))) dat)))
 sNil)
 (sSeq (sSet 7 (op2 dIdx (bnd (mLst (mCons (ret (.int 2)) (mCons (ret (.int 9)) (mCons (bnd (op2 dPow (ret (.int 10)) (ret (.int 30))) dat) (mCons (ret (.int 3)) mNil))))) dat) (bnd (op2 dMod (bnd (op2 dIdx (pk 3) (ret (.int 23))) dat) (ret (.int 4))) dat)))
 (sSeq (sSet 8 (mLst mNil))
 (sSeq (sSet 9 (mCall g_law_a_draws (mCons (bnd (mCall g_law_cell_at (mCons (fr 0) (mCons (bnd (op2 dAdd (pk 1) (ret (.int 1))) dat) mNil))) dat) (mCons (bnd (op2 dMul (pk 6) (pk 4)) dat) (mCons (bnd (op2 dPow (ret (.int 10)) (ret (.int 9))) dat) mNil)))))
 (sSeq (sFor (setD 10) (mRange1 (mCons (pk 6) mNil))
 (sSeq (sSet 11 (mLst mNil))
 (sSeq (sFor (setD 12) (mIter (bnd (opS (pk 9) (mPart (bnd (op2 dMul (pk 10) (pk 4)) dat)) (mPart (bnd (op2 dAdd (bnd (op2 dMul (pk 10) (pk 4)) dat) (pk 4)) dat))) dat))
 (sSeq (sSet 13 (op2 dSub (bnd (op2 dMod (bnd (op2 dDiv (pk 12) (ret (.int 8))) dat) (bnd (op2 dAdd (bnd (op2 dMul (ret (.int 2)) (pk 7)) dat) (ret (.int 1))) dat)) dat) (pk 7)))
 (sSeq (sIf (bnd (op2 dEq (bnd (op2 dMod (pk 12) (ret (.int 8))) dat) (ret (.int 1))) asB)
 (sSet 13 (op2 dSub (bnd (op2 dMod (bnd (op2 dMul (pk 12) (bnd (op2 dAdd (bnd (op2 dPow (ret (.int 10)) (ret (.int 22))) dat) (ret (.int 1))) dat)) dat) (bnd (op2 dAdd (bnd (op2 dMul (ret (.int 2)) (pk 7)) dat) (ret (.int 1))) dat)) dat) (pk 7)))
 sNil)
 (sDrop (mMut 11 muAppend (mCons (bnd (op2 dIdx (bnd (mLst (mCons (ret .none) (mCons (fr 13) mNil))) dat) (bnd (opL bInt (mCons (bnd (op2 dGt (bnd (op2 dMod (pk 12) (ret (.int 8))) dat) (ret (.int 0))) dat) mNil)) dat)) dat) mNil))))))
 (sDrop (mMut 8 muAppend (mCons (bnd (opL bTuple (mCons (pk 11) mNil)) dat) mNil))))))
 (sRet (fzc (mTup (mCons (fr 5) (mCons (fr 8) mNil))))))))))))))
def g_law_a_table : Fn := runF 14 b_law_a_table
def b_law_a_by : ST :=
 (sSeq (sSet 2 (mLst mNil))
 (sSeq (sFor (setD 3) (mRange1 (mCons (bnd (op2 dIdx (bnd (mLst (mCons (ret (.int 0)) (mCons (ret (.int 1)) (mCons (ret (.int 1)) (mCons (ret (.int 2)) (mCons (ret (.int 3)) (mCons (ret (.int 8)) mNil))))))) dat) (bnd (op2 dMod (pk 1) (ret (.int 6))) dat)) dat) mNil))
 (sDrop (mMut 2 muAppend (mCons (bnd (op2 dIdx (pk 0) (bnd (op2 dMod (bnd (op2 dAdd (bnd (op2 dDiv (pk 1) (ret (.int 6))) dat) (bnd (op2 dMul (pk 3) (bnd (op2 dAdd (ret (.int 1)) (bnd (op2 dDiv (pk 1) (ret (.int 60))) dat)) dat)) dat)) dat) (bnd (opL bLen (mCons (pk 0) mNil)) dat)) dat)) dat) mNil))))
 (sRet (opL bTuple (mCons (pk 2) mNil)))))
def g_law_a_by : Fn := runF 4 b_law_a_by
def b_law_parts : ST :=
 (sSeq (sSet 2 (mComp [8] (setD 8) (ret true) (bnd (opTu tIndex (bnd (op2 dIdx (pk 0) (ret (.int 0))) dat) (pk 8)) dat) (mIter (pk 1))))
 (sSeq (sSet 3 (mLst mNil))
 (sSeq (sSet 4 (mLst mNil))
 (sSeq (sFor (setT [5, 6]) (mEnum (mCons (bnd (op2 dIdx (pk 0) (ret (.int 1))) dat) mNil))
 (sSeq (sSet 7 (mComp [9] (setD 9) (ret true) (bnd (op2 dIdx (pk 6) (pk 9)) dat) (mIter (pk 2))))
 (sSeq (sIf (bnd (op2 dNotInC (pk 7) (pk 4)) asB)
 (sSeq (sDrop (mMut 4 muAppend (mCons (fr 7) mNil)))
 (sAppC 3 (mLst mNil)))
 sNil)
 (sAppAt 3 (bnd (opLi lIndex (pk 4) (pk 7)) dat) (fr 5)))))
 (sRet (mvo 3))))))
def g_law_parts : Fn := runF 10 b_law_parts
def b_law_due_kin : ST :=
 (sSeq (sSet 1 (mLst (mCons (ret (.str "NoName")) (mCons (ret (.str "NoFrame")) (mCons (ret (.str "NoRow")) (mCons (ret (.str "TooMany")) (mCons (ret (.str "NoText")) (mCons (ret (.str "NoVersion")) (mCons (ret (.str "NothingLeft")) mNil)))))))))
 (sRet (op2 dAdd (bnd (mComp [2] (setD 2) (ret true) (bnd (op2 dEq (pk 2) (pk 0)) dat) (mIter (pk 1))) dat) (bnd (mLst (mCons (ret (.bool true)) mNil)) dat))))
def g_law_due_kin : Fn := runF 3 b_law_due_kin
def b_rank_of : ST :=
 (sSeq (sIf (bnd (op2 dIs (pk 0) (ret .none)) asB)
 (sRet (fzc (mTup (mCons (ret (.int 1)) (mCons (ret (.int 0)) mNil)))))
 sNil)
 (sRet (fzc (mTup (mCons (ret (.int 0)) (mCons (fr 0) mNil))))))
def g_rank_of : Fn := runF 1 b_rank_of
def b_ordered : ST :=
 (sSeq (sDrop (mCall g_need_names (mCons (fr 0) (mCons (bnd (mComp [7] (setD 7) (ret true) (bnd (op2 dIdx (pk 7) (ret (.int 0))) dat) (mIter (pk 2))) dat) mNil))))
 (sSeq (sSet 3 (opL bSorted (mCons (pk 1) mNil)))
 (sSeq (sFor (setT [4, 5]) (mRev (fr 2))
 (sSeq (sSet 6 (mCall g_column (mCons (fr 0) (mCons (fr 4) mNil))))
 (sIf (bnd (op2 dEq (pk 5) (ret (.str "up"))) asB)
 (sSet 3 (mSortKey false 8 (bnd (mCall g_rank_of (mCons (bnd (op2 dIdx (bnd (op2 dIdx (bnd (op2 dIdx (pk 0) (ret (.int 1))) dat) (pk 8)) dat) (pk 6)) dat) mNil)) dat) (pk 3)))
 (sSet 3 (mSortKey true 8 (bnd (mCall g_rank_of (mCons (bnd (op2 dIdx (bnd (op2 dIdx (bnd (op2 dIdx (pk 0) (ret (.int 1))) dat) (pk 8)) dat) (pk 6)) dat) mNil)) dat) (pk 3))))))
 (sRet (mvo 3)))))
def g_ordered : Fn := runF 9 b_ordered
def b_are_alike : ST :=
 (sRet (opL bAll (mCons (bnd (mComp [4, 5] (setT [4, 5]) (ret true) (bnd (op2 dEq (bnd (mCall g_worth (mCons (fr 0) (mCons (fr 2) (mCons (fr 4) mNil)))) dat) (bnd (mCall g_worth (mCons (fr 0) (mCons (fr 3) (mCons (fr 4) mNil)))) dat)) dat) (mIter (pk 1))) dat) mNil)))
def g_are_alike : Fn := runF 6 b_are_alike
def b_part_with : ST :=
 (sSeq (sFor (setD 3) (mIter (bnd (mCall g_parts_of (mCons (fr 0) (mCons (fr 1) mNil))) dat))
 (sIf (bnd (op2 dInC (pk 2) (pk 3)) asB)
 (sRet (mvo 3))
 sNil))
 (sRet (mLst mNil)))
def g_part_with : Fn := runF 4 b_part_with
def b_ties_of : ST :=
 (sSeq (sSet 4 (mCall g_part_with (mCons (fr 0) (mCons (fr 1) (mCons (fr 3) mNil)))))
 (sSeq (sDrop (mCall g_need_names (mCons (fr 0) (mCons (bnd (mComp [6] (setD 6) (ret true) (bnd (op2 dIdx (pk 6) (ret (.int 0))) dat) (mIter (pk 2))) dat) mNil))))
 (sRet (mComp [5] (setD 5) (bnd (mCall g_are_alike (mCons (fr 0) (mCons (fr 2) (mCons (fr 3) (mCons (fr 5) mNil))))) asB) (fr 5) (mIter (pk 4))))))
def g_ties_of : Fn := runF 7 b_ties_of
def b_law_a_order : ST :=
 (sSeq (sSet 2 (mLst mNil))
 (sSeq (sFor (setD 3) (mRange1 (mCons (bnd (op2 dIdx (bnd (mLst (mCons (ret (.int 1)) (mCons (ret (.int 0)) (mCons (ret (.int 1)) (mCons (ret (.int 2)) (mCons (ret (.int 3)) (mCons (ret (.int 8)) mNil))))))) dat) (bnd (op2 dMod (pk 1) (ret (.int 6))) dat)) dat) mNil))
 (sSeq (sSet 4 (op2 dIdx (pk 0) (bnd (op2 dMod (bnd (op2 dAdd (bnd (op2 dDiv (pk 1) (ret (.int 6))) dat) (bnd (op2 dMul (pk 3) (bnd (op2 dAdd (ret (.int 1)) (bnd (op2 dDiv (pk 1) (ret (.int 60))) dat)) dat)) dat)) dat) (bnd (opL bLen (mCons (pk 0) mNil)) dat)) dat)))
 (sDrop (mMut 2 muAppend (mCons (mTup (mCons (fr 4) (mCons (bnd (op2 dIdx (bnd (mLst (mCons (ret (.str "up")) (mCons (ret (.str "down")) mNil))) dat) (bnd (op2 dMod (bnd (op2 dShr (bnd (op2 dDiv (pk 1) (ret (.int 600))) dat) (pk 3)) dat) (ret (.int 2))) dat)) dat) mNil))) mNil)))))
 (sRet (opL bTuple (mCons (pk 2) mNil)))))
def g_law_a_order : Fn := runF 5 b_law_a_order
def b_law_ahead : ST :=
 (sSeq (sFor (setT [4, 5]) (mIter (fr 1))
 (sSeq (sSet 6 (opTu tIndex (bnd (op2 dIdx (pk 0) (ret (.int 0))) dat) (pk 4)))
 (sSeq (sSet 7 (mLst (mCons (bnd (op2 dIdx (bnd (op2 dIdx (bnd (op2 dIdx (pk 0) (ret (.int 1))) dat) (pk 2)) dat) (pk 6)) dat) (mCons (bnd (op2 dIdx (bnd (op2 dIdx (bnd (op2 dIdx (pk 0) (ret (.int 1))) dat) (pk 3)) dat) (pk 6)) dat) mNil))))
 (sSeq (sIf (bnd (op2 dEq (bnd (op2 dIdx (pk 7) (ret (.int 0))) dat) (bnd (op2 dIdx (pk 7) (ret (.int 1))) dat)) asB)
 sCont
 sNil)
 (sSeq (sSet 8 (fzc (vOr (bnd (op2 dIs (bnd (op2 dIdx (pk 7) (ret (.int 1))) dat) (ret .none)) dat) (vAnd (bnd (op2 dIsNot (bnd (op2 dIdx (pk 7) (ret (.int 0))) dat) (ret .none)) dat) (bnd (op2 dLt (bnd (op2 dIdx (pk 7) (ret (.int 0))) dat) (bnd (op2 dIdx (pk 7) (ret (.int 1))) dat)) dat)))))
 (sRet (op2 dEq (pk 8) (bnd (op2 dEq (pk 5) (ret (.str "up"))) dat))))))))
 (sRet (fzc (ret (.bool false)))))
def g_law_ahead : Fn := runF 9 b_law_ahead
def b_law_told_k03 : ST :=
 (sSeq (sSet 5 (fzc (ret .none)))
 (sSeq (sSet 6 (mLst mNil))
 (sSeq (sTry 6 7
 (sIf (bnd (op2 dEq (pk 0) (ret (.int 0))) asB)
 (sSet 5 (mCall g_ordered (mCons (fr 1) (mCons (fr 2) (mCons (fr 3) mNil)))))
 (sSet 5 (mCall g_ties_of (mCons (fr 1) (mCons (fr 2) (mCons (fr 3) (mCons (fr 4) mNil))))))))
 (sRet (fzc (mTup (mCons (fr 5) (mCons (fr 6) mNil))))))))
def g_law_told_k03 : Fn := runF 8 b_law_told_k03
def b_law_line_right_k03 : ST :=
 (sSeq (sIf (mOr (mNot (bnd (isiM "list" (pk 3)) asB)) (bnd (op2 dNe (bnd (opL bSorted (mCons (pk 3) mNil)) dat) (pk 1)) asB))
 (sRet (fzc (ret (.bool false))))
 sNil)
 (sSeq (sFor (setD 4) (mRange2 (mCons (ret (.int 1)) (mCons (bnd (opL bLen (mCons (pk 3) mNil)) dat) mNil)))
 (sSeq (sIf (bnd (mCall g_law_ahead (mCons (fr 0) (mCons (fr 2) (mCons (bnd (op2 dIdx (pk 3) (pk 4)) dat) (mCons (bnd (op2 dIdx (pk 3) (bnd (op2 dSub (pk 4) (ret (.int 1))) dat)) dat) mNil))))) asB)
 (sRet (fzc (ret (.bool false))))
 sNil)
 (sSeq (sSet 5 (fzc (vNot (bnd (mCall g_law_ahead (mCons (fr 0) (mCons (fr 2) (mCons (bnd (op2 dIdx (pk 3) (bnd (op2 dSub (pk 4) (ret (.int 1))) dat)) dat) (mCons (bnd (op2 dIdx (pk 3) (pk 4)) dat) mNil))))) dat))))
 (sIf (mAnd (bnd (fr 5) asBD) (bnd (op2 dLt (bnd (op2 dIdx (pk 3) (pk 4)) dat) (bnd (op2 dIdx (pk 3) (bnd (op2 dSub (pk 4) (ret (.int 1))) dat)) dat)) asB))
 (sRet (fzc (ret (.bool false))))
 sNil))))
 (sRet (fzc (ret (.bool true))))))
def g_law_line_right_k03 : Fn := runF 6 b_law_line_right_k03
def b_law_case_right : ST :=
 (sSeq (sUn [4, 5] (fr 0))
 (sSeq (sSet 6 (op2 dNe (bnd (mComp [14, 15] (setT [14, 15]) (bnd (op2 dNotInC (pk 14) (pk 4)) asB) (fr 14) (mIter (pk 2))) dat) (bnd (mLst mNil) dat)))
 (sSeq (sFor (setD 7) (mIter (bnd (mCall g_law_parts (mCons (fr 0) (mCons (fr 1) mNil))) dat))
 (sSeq (sSet 8 (fzc (mTup (mCons (fr 4) (mCons (bnd (opL bList (mCons (pk 5) mNil)) dat) mNil)))))
 (sSeq (sSet 9 (opL bList (mCons (pk 7) mNil)))
 (sSeq (sUn [10, 11] (bnd (mCall g_law_told_k03 (mCons (ret (.int 0)) (mCons (fr 8) (mCons (fr 9) (mCons (fr 2) (mCons (ret (.int 0)) mNil)))))) dat))
 (sSeq (sIf (mOr (bnd (op2 dNe (pk 8) (pk 0)) asB) (bnd (op2 dNe (pk 9) (pk 7)) asB))
 (sRet (fzc (ret (.bool false))))
 sNil)
 (sSeq (sIf (mAnd (bnd (fr 6) asBD) (bnd (op2 dNe (pk 11) (bnd (mCall g_law_due_kin (mCons (ret (.str "NoName")) mNil)) dat)) asB))
 (sRet (fzc (ret (.bool false))))
 sNil)
 (sSeq (sIf (mAnd (mNot (bnd (fr 6) asBD)) (mOr (bnd (op2 dNe (pk 11) (bnd (mLst mNil) dat)) asB) (mNot (bnd (mCall g_law_line_right_k03 (mCons (fr 0) (mCons (fr 7) (mCons (fr 2) (mCons (fr 10) mNil))))) asB))))
 (sRet (fzc (ret (.bool false))))
 sNil)
 (sSeq (sSet 12 (op2 dIdx (pk 7) (bnd (op2 dMod (bnd (op2 dIdx (pk 3) (ret (.int 3))) dat) (bnd (opL bLen (mCons (pk 7) mNil)) dat)) dat)))
 (sSeq (sUn [10, 11] (bnd (mCall g_law_told_k03 (mCons (ret (.int 1)) (mCons (fr 8) (mCons (fr 1) (mCons (fr 2) (mCons (fr 12) mNil)))))) dat))
 (sSeq (sIf (mAnd (bnd (fr 6) asBD) (bnd (op2 dNe (pk 11) (bnd (mCall g_law_due_kin (mCons (ret (.str "NoName")) mNil)) dat)) asB))
 (sRet (fzc (ret (.bool false))))
 sNil)
 (sIf (mNot (bnd (fr 6) asBD))
 (sSeq (sSet 13 (mComp [16] (setD 16) (mNot (bnd (mCall g_law_ahead (mCons (fr 0) (mCons (fr 2) (mCons (fr 16) (mCons (fr 12) mNil))))) asB)) (fr 16) (mIter (pk 7))))
 (sSeq (sSet 13 (mComp [16] (setD 16) (mNot (bnd (mCall g_law_ahead (mCons (fr 0) (mCons (fr 2) (mCons (fr 12) (mCons (fr 16) mNil))))) asB)) (fr 16) (mIter (pk 13))))
 (sIf (mOr (bnd (op2 dNe (pk 11) (bnd (mLst mNil) dat)) asB) (mOr (mNot (bnd (isiM "list" (pk 10)) asB)) (bnd (op2 dNe (pk 10) (pk 13)) asB)))
 (sRet (fzc (ret (.bool false))))
 sNil)))
 sNil)))))))))))
 (sRet (fzc (ret (.bool true)))))))
def g_law_case_right : Fn := runF 17 b_law_case_right
def b_need_frame : ST :=
 (sIf (mAnd (bnd (op2 dEq (bnd (op2 dIdx (pk 1) (ret (.int 0))) dat) (ret (.str "worths"))) asB) (bnd (op2 dNe (bnd (opL bLen (mCons (pk 0) mNil)) dat) (ret (.int 1))) asB))
 (sRaise "NoFrame")
 sNil)
def g_need_frame : Fn := runF 2 b_need_frame
def b_groups_of : ST :=
 (sSeq (sSet 3 (mLst mNil))
 (sSeq (sSet 4 (fzc (ret (.int 0))))
 (sSeq (sFor (setT [5, 6]) (mEnum (mCons (fr 1) mNil))
 (sSeq (sIf (mAnd (bnd (op2 dGt (pk 5) (ret (.int 0))) asB) (mNot (bnd (mCall g_are_alike (mCons (fr 0) (mCons (fr 2) (mCons (bnd (op2 dIdx (pk 1) (bnd (op2 dSub (pk 5) (ret (.int 1))) dat)) dat) (mCons (fr 6) mNil))))) asB)))
 (sAugAdd 4 (ret (.int 1)))
 sNil)
 (sDrop (mMut 3 muAppend (mCons (fr 4) mNil)))))
 (sRet (mvo 3)))))
def g_groups_of : Fn := runF 7 b_groups_of
def b_off : ST :=
 (sSeq (sIf (bnd (op2 dEq (bnd (op2 dIdx (pk 0) (ret (.int 0))) dat) (ret (.str "back"))) asB)
 (sRet (op2 dSub (ret (.int 0)) (bnd (op2 dIdx (pk 0) (ret (.int 1))) dat)))
 sNil)
 (sSeq (sIf (bnd (op2 dEq (bnd (op2 dIdx (pk 0) (ret (.int 0))) dat) (ret (.str "on"))) asB)
 (sRet (op2 dIdx (pk 0) (ret (.int 1))))
 sNil)
 (sRet (fzc (ret (.int 0))))))
def g_off : Fn := runF 1 b_off
def b_first_from : ST :=
 (sRet (opL bLen (mCons (bnd (mComp [2] (setD 2) (bnd (op2 dLt (pk 2) (pk 1)) asB) (fr 2) (mIter (pk 0))) dat) mNil)))
def g_first_from : Fn := runF 3 b_first_from
def b_far_worth : ST :=
 (sSeq (sSet 3 (mCall g_off (mCons (fr 2) mNil)))
 (sSeq (sIf (bnd (op2 dEq (pk 1) (ret (.str "down"))) asB)
 (sSet 3 (op2 dSub (ret (.int 0)) (pk 3)))
 sNil)
 (sRet (op2 dAdd (pk 0) (pk 3)))))
def g_far_worth : Fn := runF 4 b_far_worth
def b_worth_ends : ST :=
 (sSeq (sUn [5, 6] (bnd (op2 dIdx (pk 2) (ret (.int 0))) dat))
 (sSeq (sSet 7 (mComp [12] (setD 12) (ret true) (bnd (mCall g_rank_of (mCons (bnd (mCall g_worth (mCons (fr 0) (mCons (fr 12) (mCons (fr 5) mNil)))) dat) mNil)) dat) (mIter (pk 1))))
 (sSeq (sSet 8 (mCall g_worth (mCons (fr 0) (mCons (bnd (op2 dIdx (pk 1) (pk 4)) dat) (mCons (fr 5) mNil)))))
 (sSeq (sSet 9 (mLst mNil))
 (sSeq (sFor (setD 10) (mIter (bnd (opS (pk 3) (mPart (ret (.int 1))) (mPart (ret (.int 3)))) dat))
 (sSeq (sSet 11 (mCall g_rank_of (mCons (fr 8) mNil)))
 (sSeq (sIf (mAnd (bnd (op2 dIsNot (pk 8) (ret .none)) asB) (bnd (op2 dNotInC (bnd (op2 dIdx (pk 10) (ret (.int 0))) dat) (mTup (mCons (ret (.str "first")) (mCons (ret (.str "last")) mNil)))) asB))
 (sSet 11 (mCall g_rank_of (mCons (bnd (mCall g_far_worth (mCons (fr 8) (mCons (fr 6) (mCons (fr 10) mNil)))) dat) mNil)))
 sNil)
 (sIf (bnd (op2 dEq (pk 6) (ret (.str "up"))) asB)
 (sDrop (mMut 9 muAppend (mCons (mTup (mCons (bnd (opL bLen (mCons (bnd (mComp [13] (setD 13) (bnd (op2 dLtD (pk 13) (pk 11)) asB) (fr 13) (mIter (pk 7))) dat) mNil)) dat) (mCons (bnd (opL bLen (mCons (bnd (mComp [13] (setD 13) (bnd (op2 dLeD (pk 13) (pk 11)) asB) (fr 13) (mIter (pk 7))) dat) mNil)) dat) mNil))) mNil)))
 (sDrop (mMut 9 muAppend (mCons (mTup (mCons (bnd (opL bLen (mCons (bnd (mComp [13] (setD 13) (bnd (op2 dGtD (pk 13) (pk 11)) asB) (fr 13) (mIter (pk 7))) dat) mNil)) dat) (mCons (bnd (opL bLen (mCons (bnd (mComp [13] (setD 13) (bnd (op2 dGeD (pk 13) (pk 11)) asB) (fr 13) (mIter (pk 7))) dat) mNil)) dat) mNil))) mNil)))))))
 (sRet (fzc (mTup (mCons (bnd (op2 dIdx (bnd (op2 dIdx (pk 9) (ret (.int 0))) dat) (ret (.int 0))) dat) (mCons (bnd (op2 dIdx (bnd (op2 dIdx (pk 9) (ret (.int 1))) dat) (ret (.int 1))) dat) mNil))))))))))
def g_worth_ends : Fn := runF 14 b_worth_ends
def b_ends_of : ST :=
 (sSeq (sUn [5, 6, 7, 8] (fr 3))
 (sSeq (sIf (bnd (op2 dEq (pk 5) (ret (.str "worths"))) asB)
 (sUn [9, 10] (bnd (mCall g_worth_ends (mCons (fr 0) (mCons (fr 1) (mCons (fr 2) (mCons (fr 3) (mCons (fr 4) mNil)))))) dat))
 (sSeq (sSet 11 (mListRange (mCons (bnd (opL bLen (mCons (pk 1) mNil)) dat) mNil)))
 (sSeq (sIf (bnd (op2 dEq (pk 5) (ret (.str "ties"))) asB)
 (sSet 11 (mCall g_groups_of (mCons (fr 0) (mCons (fr 1) (mCons (fr 2) mNil)))))
 sNil)
 (sSeq (sSet 9 (mCall g_first_from (mCons (fr 11) (mCons (bnd (op2 dAdd (bnd (op2 dIdx (pk 11) (pk 4)) dat) (bnd (mCall g_off (mCons (fr 6) mNil)) dat)) dat) mNil))))
 (sSet 10 (mCall g_first_from (mCons (fr 11) (mCons (bnd (op2 dAdd (bnd (op2 dAdd (bnd (op2 dIdx (pk 11) (pk 4)) dat) (bnd (mCall g_off (mCons (fr 7) mNil)) dat)) dat) (ret (.int 1))) dat) mNil))))))))
 (sSeq (sIf (bnd (op2 dEq (bnd (op2 dIdx (pk 6) (ret (.int 0))) dat) (ret (.str "first"))) asB)
 (sSet 9 (fzc (ret (.int 0))))
 sNil)
 (sSeq (sIf (bnd (op2 dEq (bnd (op2 dIdx (pk 7) (ret (.int 0))) dat) (ret (.str "last"))) asB)
 (sSet 10 (opL bLen (mCons (pk 1) mNil)))
 sNil)
 (sRet (fzc (mTup (mCons (fr 9) (mCons (bnd (opL bMax2 (mCons (pk 9) (mCons (pk 10) mNil))) dat) mNil)))))))))
def g_ends_of : Fn := runF 12 b_ends_of
def b_left_out : ST :=
 (sSeq (sIf (bnd (op2 dEq (pk 2) (ret (.str "none"))) asB)
 (sRet (fzc (ret (.bool false))))
 sNil)
 (sSeq (sIf (bnd (op2 dEq (pk 3) (pk 4)) asB)
 (sRet (op2 dNe (pk 2) (ret (.str "ties"))))
 sNil)
 (sRet (fzc (vAnd (bnd (op2 dNe (pk 2) (ret (.str "row"))) dat) (bnd (mCall g_are_alike (mCons (fr 0) (mCons (fr 1) (mCons (fr 3) (mCons (fr 4) mNil))))) dat))))))
def g_left_out : Fn := runF 5 b_left_out
def b_window_at : ST :=
 (sSeq (sUn [5, 6] (bnd (mCall g_ends_of (mCons (fr 0) (mCons (fr 1) (mCons (fr 2) (mCons (fr 3) (mCons (fr 4) mNil)))))) dat))
 (sRet (mComp [7] (setD 7) (mNot (bnd (mCall g_left_out (mCons (fr 0) (mCons (fr 2) (mCons (bnd (op2 dIdx (pk 3) (ret (.int 3))) dat) (mCons (bnd (op2 dIdx (pk 1) (pk 4)) dat) (mCons (fr 7) mNil)))))) asB)) (fr 7) (mIter (bnd (opS (pk 1) (mPart (pk 5)) (mPart (pk 6))) dat)))))
def g_window_at : Fn := runF 8 b_window_at
def b_window_of : ST :=
 (sSeq (sDrop (mCall g_need_names (mCons (fr 0) (mCons (fr 1) mNil))))
 (sSeq (sDrop (mCall g_need_names (mCons (fr 0) (mCons (bnd (mComp [6] (setD 6) (ret true) (bnd (op2 dIdx (pk 6) (ret (.int 0))) dat) (mIter (pk 2))) dat) mNil))))
 (sSeq (sDrop (mCall g_need_frame (mCons (fr 2) (mCons (fr 3) mNil))))
 (sSeq (sSet 5 (mCall g_ordered (mCons (fr 0) (mCons (bnd (mCall g_part_with (mCons (fr 0) (mCons (fr 1) (mCons (fr 4) mNil)))) dat) (mCons (fr 2) mNil)))))
 (sRet (mCall g_window_at (mCons (fr 0) (mCons (fr 5) (mCons (fr 2) (mCons (fr 3) (mCons (bnd (opLi lIndex (pk 5) (pk 4)) dat) mNil)))))))))))
def g_window_of : Fn := runF 7 b_window_of
def b_law_a_bound : ST :=
 (sSeq (sSet 3 (op2 dIdx (bnd (mLst (mCons (bnd (op2 dMod (bnd (op2 dDiv (pk 0) (ret (.int 8))) dat) (ret (.int 4))) dat) (mCons (bnd (op2 dMod (bnd (op2 dDiv (pk 0) (ret (.int 8))) dat) (ret (.int 40))) dat) (mCons (bnd (op2 dDiv (bnd (op2 dMul (bnd (op2 dDiv (pk 0) (ret (.int 8))) dat) (pk 1)) dat) (ret (.int 7))) dat) mNil)))) dat) (bnd (op2 dMod (bnd (op2 dDiv (pk 0) (ret (.int 400))) dat) (ret (.int 3))) dat)))
 (sRet (op2 dIdx (bnd (mLst (mCons (mTup (mCons (ret (.str "back")) (mCons (fr 3) mNil))) (mCons (mTup (mCons (ret (.str "on")) (mCons (fr 3) mNil))) (mCons (mTup (mCons (ret (.str "here")) mNil)) (mCons (bnd (op2 dIdx (bnd (mLst (mCons (mTup (mCons (ret (.str "first")) mNil)) (mCons (mTup (mCons (ret (.str "last")) mNil)) mNil))) dat) (pk 2)) dat) (mCons (mTup (mCons (ret (.str "back")) (mCons (fr 3) mNil))) (mCons (mTup (mCons (ret (.str "on")) (mCons (fr 3) mNil))) mNil))))))) dat) (bnd (op2 dMod (pk 0) (ret (.int 6))) dat))))
def g_law_a_bound : Fn := runF 4 b_law_a_bound
def b_law_a_frame_k04 : ST :=
 (sSeq (sSet 2 (op2 dIdx (bnd (mLst (mCons (ret (.str "rows")) (mCons (ret (.str "ties")) (mCons (ret (.str "worths")) mNil)))) dat) (bnd (op2 dMod (bnd (op2 dIdx (pk 0) (ret (.int 0))) dat) (ret (.int 3))) dat)))
 (sSeq (sSet 3 (op2 dIdx (bnd (mLst (mCons (ret (.str "none")) (mCons (ret (.str "none")) (mCons (ret (.str "row")) (mCons (ret (.str "ties")) (mCons (ret (.str "group")) mNil)))))) dat) (bnd (op2 dMod (bnd (op2 dIdx (pk 0) (ret (.int 1))) dat) (ret (.int 5))) dat)))
 (sRet (fzc (mTup (mCons (fr 2) (mCons (bnd (mCall g_law_a_bound (mCons (bnd (op2 dIdx (pk 0) (ret (.int 2))) dat) (mCons (fr 1) (mCons (ret (.int 0)) mNil)))) dat) (mCons (bnd (mCall g_law_a_bound (mCons (bnd (op2 dIdx (pk 0) (ret (.int 3))) dat) (mCons (fr 1) (mCons (ret (.int 1)) mNil)))) dat) (mCons (fr 3) mNil)))))))))
def g_law_a_frame_k04 : Fn := runF 4 b_law_a_frame_k04
def b_law_a_line : ST :=
 (sSeq (sSet 3 (mLst mNil))
 (sSeq (sFor (setD 4) (mIter (fr 1))
 (sSeq (sSet 5 (opL bLen (mCons (pk 3) mNil)))
 (sSeq (sWh (mAnd (bnd (op2 dGt (pk 5) (ret (.int 0))) asB) (bnd (mCall g_law_ahead (mCons (fr 0) (mCons (fr 2) (mCons (fr 4) (mCons (bnd (op2 dIdx (pk 3) (bnd (op2 dSub (pk 5) (ret (.int 1))) dat)) dat) mNil))))) asB))
 (sSet 5 (op2 dSub (pk 5) (ret (.int 1)))) 1000)
 (sDrop (mMut 3 muInsert (mCons (fr 5) (mCons (fr 4) mNil)))))))
 (sRet (mvo 3))))
def g_law_a_line : Fn := runF 6 b_law_a_line
def b_law_a_groups : ST :=
 (sSeq (sSet 3 (mLst mNil))
 (sSeq (sSet 4 (fzc (ret (.int 0))))
 (sSeq (sFor (setD 5) (mRange1 (mCons (bnd (opL bLen (mCons (pk 1) mNil)) dat) mNil))
 (sSeq (sIf (mAnd (bnd (op2 dGt (pk 5) (ret (.int 0))) asB) (bnd (mCall g_law_ahead (mCons (fr 0) (mCons (fr 2) (mCons (bnd (op2 dIdx (pk 1) (bnd (op2 dSub (pk 5) (ret (.int 1))) dat)) dat) (mCons (bnd (op2 dIdx (pk 1) (pk 5)) dat) mNil))))) asB))
 (sSet 4 (op2 dAdd (pk 4) (ret (.int 1))))
 sNil)
 (sDrop (mMut 3 muAppend (mCons (fr 4) mNil)))))
 (sRet (mvo 3)))))
def g_law_a_groups : Fn := runF 6 b_law_a_groups
def b_is_place : ST :=
 (sRet (op2 dInC (bnd (op2 dIdx (pk 0) (ret (.int 0))) dat) (ret (.tuple [.str "number", .str "rank", .str "dense", .str "back", .str "on", .str "pieces"]))))
def g_is_place : Fn := runF 1 b_is_place
def b_names_in : ST :=
 (sSeq (sIf (bnd (op2 dEq (bnd (op2 dIdx (pk 0) (ret (.int 0))) dat) (ret (.str "pieces"))) asB)
 (sRet (mLst mNil))
 sNil)
 (sRet (opL bList (mCons (bnd (opS (pk 0) (mPart (ret (.int 1))) (mPart (ret (.int 2)))) dat) mNil))))
def g_names_in : Fn := runF 1 b_names_in
def b_need_asking : ST :=
 (sSeq (sUn [2, 3, 4, 5] (fr 1))
 (sSeq (sDrop (mCall g_need_names (mCons (fr 0) (mCons (fr 2) mNil))))
 (sSeq (sDrop (mCall g_need_names (mCons (fr 0) (mCons (bnd (mComp [6] (setD 6) (ret true) (bnd (op2 dIdx (pk 6) (ret (.int 0))) dat) (mIter (pk 3))) dat) mNil))))
 (sSeq (sDrop (mCall g_need_names (mCons (fr 0) (mCons (bnd (mCall g_names_in (mCons (fr 5) mNil)) dat) mNil))))
 (sIf (bnd (op2 dIsNot (pk 4) (ret .none)) asB)
 (sDrop (mCall g_need_frame (mCons (fr 3) (mCons (fr 4) mNil))))
 sNil)))))
def g_need_asking : Fn := runF 7 b_need_asking
def b_at_place : ST :=
 (sSeq (sIf (bnd (opC dLe dLt (ret (.int 0)) (pk 1) (bnd (opL bLen (mCons (pk 0) mNil)) dat)) asB)
 (sRet (op2 dIdx (pk 0) (pk 1)))
 sNil)
 (sRet (fzc (ret .none))))
def g_at_place : Fn := runF 2 b_at_place
def b_measured : ST :=
 (sSeq (sIf (bnd (op2 dEq (pk 2) (mTup (mCons (ret (.str "count")) mNil))) asB)
 (sRet (opL bLen (mCons (pk 1) mNil)))
 sNil)
 (sSeq (sSet 3 (mComp [5] (setD 5) (ret true) (bnd (op2 dIdx (bnd (op2 dIdx (bnd (op2 dIdx (pk 0) (ret (.int 1))) dat) (pk 5)) dat) (bnd (mCall g_column (mCons (fr 0) (mCons (bnd (op2 dIdx (pk 2) (ret (.int 1))) dat) mNil))) dat)) dat) (mIter (pk 1))))
 (sSeq (sIf (bnd (op2 dEq (bnd (op2 dIdx (pk 2) (ret (.int 0))) dat) (ret (.str "first"))) asB)
 (sRet (mCall g_at_place (mCons (fr 3) (mCons (ret (.int 0)) mNil))))
 sNil)
 (sSeq (sIf (bnd (op2 dEq (bnd (op2 dIdx (pk 2) (ret (.int 0))) dat) (ret (.str "last"))) asB)
 (sRet (mCall g_at_place (mCons (fr 3) (mCons (bnd (op2 dSub (bnd (opL bLen (mCons (pk 3) mNil)) dat) (ret (.int 1))) dat) mNil))))
 sNil)
 (sSeq (sIf (bnd (op2 dEq (bnd (op2 dIdx (pk 2) (ret (.int 0))) dat) (ret (.str "nth"))) asB)
 (sRet (mCall g_at_place (mCons (fr 3) (mCons (bnd (op2 dSub (bnd (op2 dIdx (pk 2) (ret (.int 2))) dat) (ret (.int 1))) dat) mNil))))
 sNil)
 (sSeq (sSet 4 (mComp [6] (setD 6) (bnd (op2 dIsNot (pk 6) (ret .none)) asB) (fr 6) (mIter (pk 3))))
 (sSeq (sIf (bnd (op2 dEq (bnd (op2 dIdx (pk 2) (ret (.int 0))) dat) (ret (.str "count"))) asB)
 (sRet (opL bLen (mCons (pk 4) mNil)))
 sNil)
 (sSeq (sIf (bnd (op2 dEq (pk 4) (bnd (mLst mNil) dat)) asB)
 (sRet (fzc (ret .none)))
 sNil)
 (sSeq (sIf (bnd (op2 dEq (bnd (op2 dIdx (pk 2) (ret (.int 0))) dat) (ret (.str "sum"))) asB)
 (sRet (opL bSum (mCons (pk 4) mNil)))
 sNil)
 (sSeq (sIf (bnd (op2 dEq (bnd (op2 dIdx (pk 2) (ret (.int 0))) dat) (ret (.str "least"))) asB)
 (sRet (opL bMin (mCons (pk 4) mNil)))
 sNil)
 (sRet (opL bMax (mCons (pk 4) mNil)))))))))))))
def g_measured : Fn := runF 7 b_measured
def b_piece_of : ST :=
 (sSeq (sDivmod [3, 4] (mCons (pk 0) (mCons (pk 1) mNil)))
 (sSeq (sIf (bnd (op2 dLt (pk 2) (bnd (op2 dMul (pk 4) (bnd (op2 dAdd (pk 3) (ret (.int 1))) dat)) dat)) asB)
 (sRet (op2 dDiv (pk 2) (bnd (op2 dAdd (pk 3) (ret (.int 1))) dat)))
 sNil)
 (sRet (op2 dAdd (pk 4) (bnd (op2 dDiv (bnd (op2 dSub (pk 2) (bnd (op2 dMul (pk 4) (bnd (op2 dAdd (pk 3) (ret (.int 1))) dat)) dat)) dat) (pk 3)) dat)))))
def g_piece_of : Fn := runF 5 b_piece_of
def b_placed : ST :=
 (sSeq (sIf (bnd (op2 dEq (bnd (op2 dIdx (pk 3) (ret (.int 0))) dat) (ret (.str "number"))) asB)
 (sRet (mvo 4))
 sNil)
 (sSeq (sIf (bnd (op2 dEq (bnd (op2 dIdx (pk 3) (ret (.int 0))) dat) (ret (.str "rank"))) asB)
 (sRet (opLi lIndex (pk 2) (bnd (op2 dIdx (pk 2) (pk 4)) dat)))
 sNil)
 (sSeq (sIf (bnd (op2 dEq (bnd (op2 dIdx (pk 3) (ret (.int 0))) dat) (ret (.str "dense"))) asB)
 (sRet (op2 dIdx (pk 2) (pk 4)))
 sNil)
 (sSeq (sIf (bnd (op2 dEq (bnd (op2 dIdx (pk 3) (ret (.int 0))) dat) (ret (.str "pieces"))) asB)
 (sRet (mCall g_piece_of (mCons (bnd (opL bLen (mCons (pk 1) mNil)) dat) (mCons (bnd (op2 dIdx (pk 3) (ret (.int 1))) dat) (mCons (fr 4) mNil)))))
 sNil)
 (sSeq (sSet 5 (op2 dIdx (pk 3) (ret (.int 2))))
 (sSeq (sIf (bnd (op2 dEq (bnd (op2 dIdx (pk 3) (ret (.int 0))) dat) (ret (.str "back"))) asB)
 (sSet 5 (op2 dSub (ret (.int 0)) (pk 5)))
 sNil)
 (sSeq (sSet 6 (mCall g_at_place (mCons (fr 1) (mCons (bnd (op2 dAdd (pk 4) (pk 5)) dat) mNil))))
 (sSeq (sIf (bnd (op2 dIs (pk 6) (ret .none)) asB)
 (sRet (fzc (ret .none)))
 sNil)
 (sRet (mCall g_worth (mCons (fr 0) (mCons (fr 6) (mCons (bnd (op2 dIdx (pk 3) (ret (.int 1))) dat) mNil)))))))))))))
def g_placed : Fn := runF 7 b_placed
def b_asked : ST :=
 (sSeq (sDrop (mCall g_need_asking (mCons (fr 0) (mCons (fr 1) mNil))))
 (sSeq (sUn [2, 3, 4, 5] (fr 1))
 (sSeq (sSet 6 (mComp [11] (setD 11) (ret true) (ret .none) (mIter (bnd (op2 dIdx (pk 0) (ret (.int 1))) dat))))
 (sSeq (sFor (setD 7) (mIter (bnd (mCall g_parts_of (mCons (fr 0) (mCons (fr 2) mNil))) dat))
 (sSeq (sSet 8 (mCall g_ordered (mCons (fr 0) (mCons (fr 7) (mCons (fr 3) mNil)))))
 (sSeq (sSet 9 (mCall g_groups_of (mCons (fr 0) (mCons (fr 8) (mCons (fr 3) mNil)))))
 (sFor (setT [10, 11]) (mEnum (mCons (fr 8) mNil))
 (sIf (bnd (mCall g_is_place (mCons (fr 5) mNil)) asB)
 (sSetIx 6 (bnd (mCall g_placed (mCons (fr 0) (mCons (fr 8) (mCons (fr 9) (mCons (fr 5) (mCons (fr 10) mNil)))))) dat) (pk 11))
 (sSetIx 6 (bnd (mCall g_measured (mCons (fr 0) (mCons (bnd (mCall g_window_at (mCons (fr 0) (mCons (fr 8) (mCons (fr 3) (mCons (fr 4) (mCons (fr 10) mNil)))))) dat) (mCons (fr 5) mNil)))) dat) (pk 11)))))))
 (sRet (mvo 6))))))
def g_asked : Fn := runF 12 b_asked
def b_law_whole : ST :=
 (sRet (fzc (vAnd (bnd (isiM "int" (pk 0)) dat) (vNot (bnd (isiM "bool" (pk 0)) dat)))))
def g_law_whole : Fn := runF 1 b_law_whole
def b_law_a_measure : ST :=
 (sSeq (sSet 2 (op2 dIdx (pk 0) (bnd (op2 dMod (bnd (op2 dDiv (pk 1) (ret (.int 9))) dat) (bnd (opL bLen (mCons (pk 0) mNil)) dat)) dat)))
 (sSeq (sSet 3 (op2 dAdd (ret (.int 1)) (bnd (op2 dIdx (bnd (mLst (mCons (bnd (op2 dMod (bnd (op2 dDiv (pk 1) (ret (.int 100))) dat) (ret (.int 3))) dat) (mCons (bnd (op2 dMod (bnd (op2 dDiv (pk 1) (ret (.int 100))) dat) (ret (.int 60))) dat) (mCons (bnd (op2 dPow (ret (.int 10)) (ret (.int 39))) dat) mNil)))) dat) (bnd (op2 dMod (bnd (op2 dDiv (pk 1) (ret (.int 6000))) dat) (ret (.int 3))) dat)) dat)))
 (sSeq (sSet 4 (mLst (mCons (mTup (mCons (ret (.str "count")) mNil)) (mCons (mTup (mCons (ret (.str "count")) (mCons (fr 2) mNil))) (mCons (mTup (mCons (ret (.str "sum")) (mCons (fr 2) mNil))) (mCons (mTup (mCons (ret (.str "least")) (mCons (fr 2) mNil))) (mCons (mTup (mCons (ret (.str "most")) (mCons (fr 2) mNil))) (mCons (mTup (mCons (ret (.str "first")) (mCons (fr 2) mNil))) mNil))))))))
 (sRet (op2 dIdx (bnd (op2 dAdd (pk 4) (bnd (mLst (mCons (mTup (mCons (ret (.str "last")) (mCons (fr 2) mNil))) (mCons (mTup (mCons (ret (.str "nth")) (mCons (fr 2) (mCons (fr 3) mNil)))) (mCons (mTup (mCons (ret (.str "sum")) (mCons (fr 2) mNil))) mNil)))) dat)) dat) (bnd (op2 dMod (pk 1) (ret (.int 9))) dat))))))
def g_law_a_measure : Fn := runF 5 b_law_a_measure
def b_law_a_place : ST :=
 (sSeq (sSet 2 (op2 dIdx (pk 0) (bnd (op2 dMod (bnd (op2 dDiv (pk 1) (ret (.int 6))) dat) (bnd (opL bLen (mCons (pk 0) mNil)) dat)) dat)))
 (sSeq (sSet 3 (op2 dIdx (bnd (mLst (mCons (bnd (op2 dMod (bnd (op2 dDiv (pk 1) (ret (.int 100))) dat) (ret (.int 4))) dat) (mCons (bnd (op2 dMod (bnd (op2 dDiv (pk 1) (ret (.int 100))) dat) (ret (.int 50))) dat) (mCons (bnd (op2 dPow (ret (.int 10)) (ret (.int 39))) dat) mNil)))) dat) (bnd (op2 dMod (bnd (op2 dDiv (pk 1) (ret (.int 5000))) dat) (ret (.int 3))) dat)))
 (sSeq (sSet 4 (mLst (mCons (mTup (mCons (ret (.str "number")) mNil)) (mCons (mTup (mCons (ret (.str "rank")) mNil)) (mCons (mTup (mCons (ret (.str "dense")) mNil)) (mCons (mTup (mCons (ret (.str "back")) (mCons (fr 2) (mCons (fr 3) mNil)))) (mCons (mTup (mCons (ret (.str "on")) (mCons (fr 2) (mCons (fr 3) mNil)))) mNil)))))))
 (sRet (op2 dIdx (bnd (op2 dAdd (pk 4) (bnd (mLst (mCons (mTup (mCons (ret (.str "pieces")) (mCons (bnd (op2 dAdd (bnd (opL bMin2 (mCons (pk 3) (mCons (ret (.int 60)) mNil))) dat) (ret (.int 1))) dat) mNil))) mNil)) dat)) dat) (bnd (op2 dMod (pk 1) (ret (.int 6))) dat))))))
def g_law_a_place : Fn := runF 5 b_law_a_place
def b_law_placed : ST :=
 (sSeq (sIf (bnd (op2 dEq (bnd (op2 dIdx (pk 3) (ret (.int 0))) dat) (ret (.str "number"))) asB)
 (sRet (mvo 4))
 sNil)
 (sSeq (sIf (bnd (op2 dEq (bnd (op2 dIdx (pk 3) (ret (.int 0))) dat) (ret (.str "rank"))) asB)
 (sRet (opL bLen (mCons (bnd (mComp [9] (setD 9) (bnd (op2 dLt (pk 9) (bnd (op2 dIdx (pk 2) (pk 4)) dat)) asB) (fr 9) (mIter (pk 2))) dat) mNil)))
 sNil)
 (sSeq (sIf (bnd (op2 dEq (bnd (op2 dIdx (pk 3) (ret (.int 0))) dat) (ret (.str "dense"))) asB)
 (sRet (op2 dIdx (pk 2) (pk 4)))
 sNil)
 (sSeq (sIf (bnd (op2 dEq (bnd (op2 dIdx (pk 3) (ret (.int 0))) dat) (ret (.str "pieces"))) asB)
 (sSeq (sSet 6 (mLst mNil))
 (sSeq (sFor (setD 7) (mRange1 (mCons (bnd (op2 dIdx (pk 3) (ret (.int 1))) dat) mNil))
 (sSeq (sSet 8 (op2 dAdd (bnd (op2 dDiv (bnd (opL bLen (mCons (pk 1) mNil)) dat) (bnd (op2 dIdx (pk 3) (ret (.int 1))) dat)) dat) (bnd (opL bInt (mCons (bnd (op2 dLt (pk 7) (bnd (op2 dMod (bnd (opL bLen (mCons (pk 1) mNil)) dat) (bnd (op2 dIdx (pk 3) (ret (.int 1))) dat)) dat)) dat) mNil)) dat)))
 (sSet 6 (op2 dAdd (pk 6) (bnd (op2 dMul (bnd (mLst (mCons (fr 7) mNil)) dat) (pk 8)) dat)))))
 (sRet (op2 dIdx (pk 6) (pk 4)))))
 sNil)
 (sSeq (sSet 5 (op2 dAdd (pk 4) (bnd (op2 dMul (bnd (op2 dIdx (pk 3) (ret (.int 2))) dat) (bnd (op2 dIdx (bnd (mLst (mCons (ret (.int 1)) (mCons (bnd (mNeg (ret (.int 1))) dat) mNil))) dat) (bnd (opL bInt (mCons (bnd (op2 dEq (bnd (op2 dIdx (pk 3) (ret (.int 0))) dat) (ret (.str "back"))) dat) mNil)) dat)) dat)) dat)))
 (sSeq (sIf (mOr (bnd (op2 dLt (pk 5) (ret (.int 0))) asB) (bnd (op2 dGe (pk 5) (bnd (opL bLen (mCons (pk 1) mNil)) dat)) asB))
 (sRet (fzc (ret .none)))
 sNil)
 (sRet (op2 dIdx (bnd (op2 dIdx (bnd (op2 dIdx (pk 0) (ret (.int 1))) dat) (bnd (op2 dIdx (pk 1) (pk 5)) dat)) dat) (bnd (opTu tIndex (bnd (op2 dIdx (pk 0) (ret (.int 0))) dat) (bnd (op2 dIdx (pk 3) (ret (.int 1))) dat)) dat)))))))))
def g_law_placed : Fn := runF 10 b_law_placed
def b_law_bound : ST :=
 (sSeq (sSet 3 (op2 dIdx (bnd (mLst (mCons (bnd (op2 dMod (bnd (op2 dDiv (pk 0) (ret (.int 8))) dat) (ret (.int 4))) dat) (mCons (bnd (op2 dMod (bnd (op2 dDiv (pk 0) (ret (.int 8))) dat) (ret (.int 40))) dat) (mCons (bnd (op2 dDiv (bnd (op2 dMul (bnd (op2 dDiv (pk 0) (ret (.int 8))) dat) (pk 1)) dat) (ret (.int 7))) dat) mNil)))) dat) (bnd (op2 dMod (bnd (op2 dDiv (pk 0) (ret (.int 400))) dat) (ret (.int 3))) dat)))
 (sRet (op2 dIdx (bnd (mLst (mCons (mTup (mCons (ret (.str "back")) (mCons (fr 3) mNil))) (mCons (mTup (mCons (ret (.str "on")) (mCons (fr 3) mNil))) (mCons (mTup (mCons (ret (.str "here")) mNil)) (mCons (bnd (op2 dIdx (bnd (mLst (mCons (mTup (mCons (ret (.str "first")) mNil)) (mCons (mTup (mCons (ret (.str "last")) mNil)) mNil))) dat) (pk 2)) dat) (mCons (mTup (mCons (ret (.str "back")) (mCons (fr 3) mNil))) (mCons (mTup (mCons (ret (.str "on")) (mCons (fr 3) mNil))) mNil))))))) dat) (bnd (op2 dMod (pk 0) (ret (.int 6))) dat))))
def g_law_bound : Fn := runF 4 b_law_bound
def b_law_a_frame_k08 : ST :=
 (sSeq (sSet 2 (op2 dIdx (bnd (mLst (mCons (ret (.str "rows")) (mCons (ret (.str "ties")) (mCons (ret (.str "worths")) mNil)))) dat) (bnd (op2 dMod (bnd (op2 dIdx (pk 0) (ret (.int 0))) dat) (ret (.int 3))) dat)))
 (sSeq (sSet 3 (op2 dIdx (bnd (mLst (mCons (ret (.str "none")) (mCons (ret (.str "none")) (mCons (ret (.str "row")) (mCons (ret (.str "ties")) (mCons (ret (.str "group")) mNil)))))) dat) (bnd (op2 dMod (bnd (op2 dIdx (pk 0) (ret (.int 1))) dat) (ret (.int 5))) dat)))
 (sRet (fzc (mTup (mCons (fr 2) (mCons (bnd (mCall g_law_bound (mCons (bnd (op2 dIdx (pk 0) (ret (.int 2))) dat) (mCons (fr 1) (mCons (ret (.int 0)) mNil)))) dat) (mCons (bnd (mCall g_law_bound (mCons (bnd (op2 dIdx (pk 0) (ret (.int 3))) dat) (mCons (fr 1) (mCons (ret (.int 1)) mNil)))) dat) (mCons (fr 3) mNil)))))))))
def g_law_a_frame_k08 : Fn := runF 4 b_law_a_frame_k08
def b_law_place : ST :=
 (sSeq (sSet 2 (op2 dIdx (pk 0) (bnd (op2 dMod (bnd (op2 dDiv (pk 1) (ret (.int 6))) dat) (bnd (opL bLen (mCons (pk 0) mNil)) dat)) dat)))
 (sSeq (sSet 3 (op2 dIdx (bnd (mLst (mCons (bnd (op2 dMod (bnd (op2 dDiv (pk 1) (ret (.int 100))) dat) (ret (.int 4))) dat) (mCons (bnd (op2 dMod (bnd (op2 dDiv (pk 1) (ret (.int 100))) dat) (ret (.int 50))) dat) (mCons (bnd (op2 dPow (ret (.int 10)) (ret (.int 39))) dat) mNil)))) dat) (bnd (op2 dMod (bnd (op2 dDiv (pk 1) (ret (.int 5000))) dat) (ret (.int 3))) dat)))
 (sSeq (sSet 4 (mLst (mCons (mTup (mCons (ret (.str "number")) mNil)) (mCons (mTup (mCons (ret (.str "rank")) mNil)) (mCons (mTup (mCons (ret (.str "dense")) mNil)) (mCons (mTup (mCons (ret (.str "back")) (mCons (fr 2) (mCons (fr 3) mNil)))) (mCons (mTup (mCons (ret (.str "on")) (mCons (fr 2) (mCons (fr 3) mNil)))) mNil)))))))
 (sRet (op2 dIdx (bnd (op2 dAdd (pk 4) (bnd (mLst (mCons (mTup (mCons (ret (.str "pieces")) (mCons (bnd (op2 dAdd (bnd (opL bMin2 (mCons (pk 3) (mCons (ret (.int 60)) mNil))) dat) (ret (.int 1))) dat) mNil))) mNil)) dat)) dat) (bnd (op2 dMod (pk 1) (ret (.int 6))) dat))))))
def g_law_place : Fn := runF 5 b_law_place
def b_counting : ST :=
 (sSeq (sSet 2 (mLst mNil))
 (sSeq (sSet 3 (opL bList (mCons (pk 0) mNil)))
 (sSeq (sFor (setT [4, 5]) (mIter (fr 1))
 (sIf (bnd (op2 dNotInC (pk 4) (pk 3)) asB)
 (sSeq (sDrop (mMut 3 muAppend (mCons (fr 4) mNil)))
 (sDrop (mMut 2 muAppend (mCons (mTup (mCons (fr 4) (mCons (fr 5) mNil))) mNil))))
 sNil))
 (sRet (mvo 2)))))
def g_counting : Fn := runF 6 b_counting
def b_unlike : ST :=
 (sSeq (sSet 1 (mLst mNil))
 (sSeq (sFor (setD 2) (mIter (fr 0))
 (sIf (bnd (op2 dNotInC (pk 2) (pk 1)) asB)
 (sDrop (mMut 1 muAppend (mCons (fr 2) mNil)))
 sNil))
 (sRet (mvo 1))))
def g_unlike : Fn := runF 3 b_unlike
def b_serves : ST :=
 (sSeq (sSet 3 (mCall g_unlike (mCons (fr 1) mNil)))
 (sSeq (sSet 4 (mCall g_counting (mCons (fr 1) (mCons (fr 2) mNil))))
 (sSeq (sSet 5 (mComp [6, 7] (setT [6, 7]) (ret true) (fr 6) (mIter (bnd (opS (pk 0) (ret none) (mPart (bnd (opL bLen (mCons (pk 3) mNil)) dat))) dat))))
 (sRet (fzc (vAnd (bnd (op2 dEq (bnd (opL bSorted (mCons (pk 5) mNil)) dat) (bnd (opL bSorted (mCons (pk 3) mNil)) dat)) dat) (bnd (op2 dEq (bnd (opS (pk 0) (mPart (bnd (opL bLen (mCons (pk 3) mNil)) dat)) (mPart (bnd (op2 dAdd (bnd (opL bLen (mCons (pk 3) mNil)) dat) (bnd (opL bLen (mCons (pk 4) mNil)) dat)) dat))) dat) (pk 4)) dat)))))))
def g_serves : Fn := runF 8 b_serves
def b_law_draws : ST :=
 (sSeq (sSet 3 (mLst mNil))
 (sSeq (sSet 4 (op2 dMul (pk 0) (bnd (opL bInt (mCons (bnd (op2 dGe (pk 0) (bnd (op2 dPow (ret (.int 10)) (ret (.int 18))) dat)) dat) mNil)) dat)))
 (sSeq (sSet 5 (op2 dMod (pk 0) (ret (.int 2305843009213693951))))
 (sSeq (sFor (setD 6) (mRange1 (mCons (bnd (op2 dAdd (pk 1) (ret (.int 3))) dat) mNil))
 (sSeq (sSet 5 (op2 dMod (bnd (op2 dAdd (bnd (op2 dAdd (bnd (op2 dAdd (bnd (op2 dMul (pk 5) (pk 5)) dat) (bnd (op2 dMul (ret (.int 48271)) (pk 5)) dat)) dat) (pk 6)) dat) (ret (.int 1))) dat) (ret (.int 2305843009213693951))))
 (sIf (mAnd (bnd (op2 dGt (pk 6) (ret (.int 2))) asB) (bnd (op2 dGt (pk 4) (ret (.int 0))) asB))
 (sSeq (sDrop (mMut 3 muAppend (mCons (bnd (op2 dMod (pk 4) (pk 2)) dat) mNil)))
 (sSet 4 (op2 dDiv (pk 4) (pk 2))))
 (sIf (bnd (op2 dGt (pk 6) (ret (.int 2))) asB)
 (sDrop (mMut 3 muAppend (mCons (bnd (op2 dMod (bnd (op2 dDiv (pk 5) (ret (.int 4096))) dat) (pk 2)) dat) mNil)))
 sNil))))
 (sRet (mvo 3))))))
def g_law_draws : Fn := runF 7 b_law_draws
def b_law_counting : ST :=
 (sSeq (sSet 2 (mLst mNil))
 (sSeq (sFor (setD 3) (mRange1 (mCons (bnd (opL bLen (mCons (pk 1) mNil)) dat) mNil))
 (sSeq (sSet 4 (mComp [5] (setD 5) (ret true) (bnd (op2 dIdx (pk 5) (ret (.int 0))) dat) (mIter (bnd (opS (pk 1) (ret none) (mPart (pk 3))) dat))))
 (sIf (mAnd (bnd (op2 dNotInC (bnd (op2 dIdx (bnd (op2 dIdx (pk 1) (pk 3)) dat) (ret (.int 0))) dat) (pk 0)) asB) (bnd (op2 dNotInC (bnd (op2 dIdx (bnd (op2 dIdx (pk 1) (pk 3)) dat) (ret (.int 0))) dat) (pk 4)) asB))
 (sDrop (mMut 2 muAppend (mCons (bnd (op2 dIdx (pk 1) (pk 3)) dat) mNil)))
 sNil)))
 (sRet (mvo 2))))
def g_law_counting : Fn := runF 6 b_law_counting
def b_law_serves : ST :=
 (sSeq (sSet 3 (mLst mNil))
 (sSeq (sFor (setD 4) (mIter (fr 1))
 (sIf (bnd (op2 dNotInC (pk 4) (pk 3)) asB)
 (sDrop (mMut 3 muAppend (mCons (fr 4) mNil)))
 sNil))
 (sSeq (sSet 5 (mCall g_law_counting (mCons (fr 1) (mCons (fr 2) mNil))))
 (sSeq (sSet 6 (mComp [7] (setD 7) (ret true) (bnd (op2 dIdx (pk 7) (ret (.int 0))) dat) (mIter (bnd (opS (pk 0) (ret none) (mPart (bnd (opL bLen (mCons (pk 3) mNil)) dat))) dat))))
 (sSeq (sIf (bnd (op2 dLt (bnd (opL bLen (mCons (pk 0) mNil)) dat) (bnd (op2 dAdd (bnd (opL bLen (mCons (pk 3) mNil)) dat) (bnd (opL bLen (mCons (pk 5) mNil)) dat)) dat)) asB)
 (sRet (fzc (ret (.bool false))))
 sNil)
 (sSeq (sIf (bnd (op2 dNe (bnd (mComp [4] (setD 4) (bnd (op2 dNotInC (pk 4) (pk 6)) asB) (fr 4) (mIter (pk 3))) dat) (bnd (mLst mNil) dat)) asB)
 (sRet (fzc (ret (.bool false))))
 sNil)
 (sRet (op2 dEq (bnd (mComp [8] (setD 8) (ret true) (bnd (op2 dIdx (pk 0) (bnd (op2 dAdd (bnd (opL bLen (mCons (pk 3) mNil)) dat) (pk 8)) dat)) dat) (mRange1 (mCons (bnd (opL bLen (mCons (pk 5) mNil)) dat) mNil))) dat) (pk 5)))))))))
def g_law_serves : Fn := runF 9 b_law_serves
def b_totals : ST :=
 (sSeq (sDrop (mCall g_need_names (mCons (fr 0) (mCons (fr 1) mNil))))
 (sSeq (sFor (setD 3) (mIter (fr 2))
 (sDrop (mCall g_need_names (mCons (fr 0) (mCons (bnd (mCall g_names_in (mCons (fr 3) mNil)) dat) mNil)))))
 (sSeq (sSet 4 (mLst mNil))
 (sSeq (sFor (setD 5) (mIter (bnd (mCall g_parts_of (mCons (fr 0) (mCons (fr 1) mNil))) dat))
 (sSeq (sSet 6 (opL bTuple (mCons (bnd (mComp [7] (setD 7) (ret true) (bnd (mCall g_worth (mCons (fr 0) (mCons (bnd (op2 dIdx (pk 5) (ret (.int 0))) dat) (mCons (fr 7) mNil)))) dat) (mIter (pk 1))) dat) mNil)))
 (sDrop (mMut 4 muAppend (mCons (mTup (mCons (fr 6) (mCons (bnd (opL bTuple (mCons (bnd (mComp [3] (setD 3) (ret true) (bnd (mCall g_measured (mCons (fr 0) (mCons (fr 5) (mCons (fr 3) mNil)))) dat) (mIter (pk 2))) dat) mNil)) dat) mNil))) mNil)))))
 (sRet (mvo 4))))))
def g_totals : Fn := runF 8 b_totals
def b_law_measure : ST :=
 (sSeq (sSet 2 (op2 dIdx (pk 0) (bnd (op2 dMod (bnd (op2 dDiv (pk 1) (ret (.int 9))) dat) (bnd (opL bLen (mCons (pk 0) mNil)) dat)) dat)))
 (sSeq (sSet 3 (op2 dAdd (ret (.int 1)) (bnd (op2 dIdx (bnd (mLst (mCons (bnd (op2 dMod (bnd (op2 dDiv (pk 1) (ret (.int 100))) dat) (ret (.int 3))) dat) (mCons (bnd (op2 dMod (bnd (op2 dDiv (pk 1) (ret (.int 100))) dat) (ret (.int 60))) dat) (mCons (bnd (op2 dPow (ret (.int 10)) (ret (.int 39))) dat) mNil)))) dat) (bnd (op2 dMod (bnd (op2 dDiv (pk 1) (ret (.int 6000))) dat) (ret (.int 3))) dat)) dat)))
 (sSeq (sSet 4 (mLst (mCons (mTup (mCons (ret (.str "count")) mNil)) (mCons (mTup (mCons (ret (.str "count")) (mCons (fr 2) mNil))) (mCons (mTup (mCons (ret (.str "sum")) (mCons (fr 2) mNil))) (mCons (mTup (mCons (ret (.str "least")) (mCons (fr 2) mNil))) (mCons (mTup (mCons (ret (.str "most")) (mCons (fr 2) mNil))) (mCons (mTup (mCons (ret (.str "first")) (mCons (fr 2) mNil))) mNil))))))))
 (sRet (op2 dIdx (bnd (op2 dAdd (pk 4) (bnd (mLst (mCons (mTup (mCons (ret (.str "last")) (mCons (fr 2) mNil))) (mCons (mTup (mCons (ret (.str "nth")) (mCons (fr 2) (mCons (fr 3) mNil)))) (mCons (mTup (mCons (ret (.str "sum")) (mCons (fr 2) mNil))) mNil)))) dat)) dat) (bnd (op2 dMod (pk 1) (ret (.int 9))) dat))))))
def g_law_measure : Fn := runF 5 b_law_measure
def b_law_a_asking_k38 : ST :=
 (sSeq (sSet 2 (mCall g_law_a_by (mCons (fr 0) (mCons (bnd (op2 dIdx (pk 1) (ret (.int 4))) dat) mNil))))
 (sSeq (sSet 3 (mCall g_law_a_order (mCons (fr 0) (mCons (bnd (op2 dIdx (pk 1) (ret (.int 5))) dat) mNil))))
 (sSeq (sIf (bnd (op2 dEq (bnd (op2 dMod (bnd (op2 dIdx (pk 1) (ret (.int 7))) dat) (ret (.int 3))) dat) (ret (.int 0))) asB)
 (sRet (fzc (mTup (mCons (fr 2) (mCons (fr 3) (mCons (ret .none) (mCons (bnd (mCall g_law_place (mCons (fr 0) (mCons (bnd (op2 dIdx (pk 1) (ret (.int 6))) dat) mNil))) dat) mNil)))))))
 sNil)
 (sSeq (sSet 4 (mCall g_law_a_frame_k08 (mCons (fr 1) (mCons (bnd (op2 dIdx (bnd (mLst (mCons (ret (.int 1)) (mCons (bnd (op2 dPow (ret (.int 10)) (ret (.int 23))) dat) mNil))) dat) (bnd (op2 dMod (bnd (op2 dIdx (pk 1) (ret (.int 6))) dat) (ret (.int 2))) dat)) dat) mNil))))
 (sSeq (sIf (bnd (op2 dEq (bnd (op2 dIdx (pk 4) (ret (.int 0))) dat) (ret (.str "worths"))) asB)
 (sSet 3 (fzc (mTup (mCons (mTup (mCons (bnd (op2 dIdx (pk 0) (bnd (op2 dMod (bnd (op2 dDiv (bnd (op2 dIdx (pk 1) (ret (.int 5))) dat) (ret (.int 7))) dat) (bnd (opL bLen (mCons (pk 0) mNil)) dat)) dat)) dat) (mCons (bnd (op2 dIdx (bnd (mLst (mCons (ret (.str "up")) (mCons (ret (.str "down")) mNil))) dat) (bnd (op2 dMod (bnd (op2 dIdx (pk 1) (ret (.int 5))) dat) (ret (.int 2))) dat)) dat) mNil))) mNil))))
 sNil)
 (sRet (fzc (mTup (mCons (fr 2) (mCons (fr 3) (mCons (fr 4) (mCons (bnd (mCall g_law_measure (mCons (fr 0) (mCons (bnd (op2 dIdx (pk 1) (ret (.int 6))) dat) mNil))) dat) mNil))))))))))))
def g_law_a_asking_k38 : Fn := runF 5 b_law_a_asking_k38
def b_law_turned : ST :=
 (sSeq (sUn [2, 3] (fr 0))
 (sSeq (sSet 4 (mComp [5] (setD 5) (ret true) (bnd (op2 dAdd (bnd (opS (pk 5) (mPart (pk 1)) (ret none)) dat) (bnd (opS (pk 5) (ret none) (mPart (pk 1))) dat)) dat) (mIter (pk 3))))
 (sRet (fzc (mTup (mCons (bnd (op2 dAdd (bnd (opS (pk 2) (mPart (pk 1)) (ret none)) dat) (bnd (opS (pk 2) (ret none) (mPart (pk 1))) dat)) dat) (mCons (fr 4) mNil)))))))
def g_law_turned : Fn := runF 6 b_law_turned
def b_law_k39_0 : ST :=
 (sSet 1 (mCall g_law_a_table (mCons (fr 0) (mCons (ret (.int 0)) (mCons (ret (.int 40)) mNil)))))
def b_law_k39_1 : ST :=
 (sUn [2, 3] (fr 1))
def b_law_k39_2 : ST :=
 (sSet 4 (mCall g_law_a_draws (mCons (bnd (mCall g_law_cell_at (mCons (fr 0) (mCons (ret (.int 2)) mNil))) dat) (mCons (ret (.int 14)) (mCons (bnd (op2 dPow (ret (.int 10)) (ret (.int 6))) dat) mNil)))))
def b_law_k39_3 : ST :=
 (sSet 5 (mCall g_law_a_asking_k38 (mCons (fr 2) (mCons (fr 4) mNil))))
def b_law_k39_4 : ST :=
 (sSet 6 (mComp [17] (setD 17) (ret true) (bnd (op2 dIdx (pk 2) (bnd (op2 dMod (pk 17) (bnd (opL bLen (mCons (pk 2) mNil)) dat)) dat)) dat) (mIter (bnd (opS (pk 4) (mPart (ret (.int 8))) (mPart (bnd (op2 dAdd (ret (.int 8)) (bnd (op2 dMod (bnd (op2 dIdx (pk 4) (ret (.int 10))) dat) (ret (.int 3))) dat)) dat))) dat))))
def b_law_k39_5 : ST :=
 (sSet 7 (op2 dAdd (bnd (op2 dIdx (pk 5) (ret (.int 0))) dat) (bnd (opL bTuple (mCons (pk 6) mNil)) dat)))
def b_law_k39_6 : ST :=
 (sSet 5 (op2 dAdd (mTup (mCons (fr 7) mNil)) (bnd (opS (pk 5) (mPart (ret (.int 1))) (ret none)) dat)))
def b_law_k39_7 : ST :=
 (sSet 8 (mCall g_asked (mCons (fr 1) (mCons (fr 5) mNil))))
def b_law_k39_8 : ST :=
 (sSet 9 (mCall g_parts_of (mCons (fr 1) (mCons (fr 7) mNil))))
def b_law_k39_9 : ST :=
 (sSet 14 (mCall g_asked (mCons (mTup (mCons (fr 2) (mCons (bnd (mComp [16] (setD 16) (ret true) (bnd (op2 dIdx (pk 3) (pk 16)) dat) (mIter (pk 10))) dat) mNil))) (mCons (fr 5) mNil))))
def b_law_k39_10 : ST :=
 (sIf (bnd (op2 dNe (pk 14) (bnd (mComp [16] (setD 16) (ret true) (bnd (op2 dIdx (pk 8) (pk 16)) dat) (mIter (pk 10))) dat)) asB)
 (sRet (fzc (ret (.bool false))))
 sNil)
def b_law_k39_11 : ST :=
 (sSeq b_law_k39_9
 b_law_k39_10)
def b_law_k39_12 : ST :=
 (sFor (setD 10) (mIter (bnd (op2 dAdd (bnd (opS (pk 9) (ret none) (mPart (ret (.int 3)))) dat) (bnd (opS (pk 9) (mPart (bnd (mNeg (ret (.int 1))) dat)) (ret none)) dat)) dat))
 b_law_k39_11)
def b_law_k39_13 : ST :=
 (sIf (bnd (op2 dNe (pk 7) (mTup mNil)) asB)
 (sSeq (sSet 15 (opTu tIndex (pk 2) (bnd (op2 dIdx (pk 7) (ret (.int 0))) dat)))
 (sSeq (sSet 16 (op2 dAdd (bnd (op2 dAdd (bnd (op2 dMul (mTup (mCons (ret (.int 3)) mNil)) (pk 15)) dat) (mTup (mCons (bnd (op2 dPow (ret (.int 10)) (ret (.int 50))) dat) mNil))) dat) (bnd (op2 dMul (mTup (mCons (ret (.int 3)) mNil)) (bnd (op2 dSub (bnd (op2 dSub (bnd (opL bLen (mCons (pk 2) mNil)) dat) (pk 15)) dat) (ret (.int 1))) dat)) dat)))
 (sIf (bnd (op2 dNe (bnd (opS (bnd (mCall g_asked (mCons (mTup (mCons (fr 2) (mCons (bnd (opS (bnd (op2 dAdd (pk 3) (bnd (mLst (mCons (fr 16) mNil)) dat)) dat) (ret none) (mPart (ret (.int 200)))) dat) mNil))) (mCons (fr 5) mNil))) dat) (ret none) (mPart (bnd (opL bLen (mCons (pk 3) mNil)) dat))) dat) (pk 8)) asB)
 (sRet (fzc (ret (.bool false))))
 sNil)))
 sNil)
def b_law_k39_14 : ST :=
 (sIf (bnd (op2 dNe (bnd (mCall g_asked (mCons (bnd (mCall g_law_turned (mCons (fr 1) (mCons (bnd (op2 dMod (bnd (op2 dIdx (pk 4) (ret (.int 11))) dat) (bnd (opL bLen (mCons (pk 2) mNil)) dat)) dat) mNil))) dat) (mCons (fr 5) mNil))) dat) (pk 8)) asB)
 (sRet (fzc (ret (.bool false))))
 sNil)
def b_law_k39_15 : ST :=
 (sSet 11 (op2 dAdd (bnd (op2 dAdd (bnd (opL bList (mCons (pk 7) mNil)) dat) (bnd (mComp [18] (setD 18) (ret true) (bnd (op2 dIdx (pk 18) (ret (.int 0))) dat) (mIter (bnd (op2 dIdx (pk 5) (ret (.int 1))) dat))) dat)) dat) (bnd (opL bList (mCons (bnd (opS (bnd (op2 dIdx (pk 5) (ret (.int 3))) dat) (mPart (ret (.int 1))) (mPart (ret (.int 2)))) dat) mNil)) dat)))
def b_law_k39_16 : ST :=
 (sSet 12 (mComp [13] (setD 13) (bnd (op2 dNotInC (bnd (op2 dIdx (pk 2) (pk 13)) dat) (pk 11)) asB) (fr 13) (mRange1 (mCons (bnd (opL bLen (mCons (pk 2) mNil)) dat) mNil))))
def b_law_k39_17 : ST :=
 (sSet 6 (mComp [16] (setD 16) (ret true) (bnd (op2 dAdd (bnd (op2 dAdd (bnd (opS (pk 16) (ret none) (mPart (pk 13))) dat) (mTup (mCons (bnd (op2 dIdx (pk 4) (ret (.int 12))) dat) mNil))) dat) (bnd (opS (pk 16) (mPart (bnd (op2 dAdd (pk 13) (ret (.int 1))) dat)) (ret none)) dat)) dat) (mIter (pk 3))))
def b_law_k39_18 : ST :=
 (sIf (bnd (op2 dNe (bnd (mCall g_asked (mCons (mTup (mCons (fr 2) (mCons (fr 6) mNil))) (mCons (fr 5) mNil))) dat) (pk 8)) asB)
 (sRet (fzc (ret (.bool false))))
 sNil)
def b_law_k39_19 : ST :=
 (sSeq b_law_k39_17
 b_law_k39_18)
def b_law_k39_20 : ST :=
 (sFor (setD 13) (mIter (bnd (opS (pk 12) (ret none) (mPart (ret (.int 2)))) dat))
 b_law_k39_19)
def b_law_k39_21 : ST :=
 (sRet (fzc (ret (.bool true))))
def b_law_k39 : ST :=
 (sSeq b_law_k39_0
 (sSeq b_law_k39_1
 (sSeq b_law_k39_2
 (sSeq b_law_k39_3
 (sSeq b_law_k39_4
 (sSeq b_law_k39_5
 (sSeq b_law_k39_6
 (sSeq b_law_k39_7
 (sSeq b_law_k39_8
 (sSeq b_law_k39_12
 (sSeq b_law_k39_13
 (sSeq b_law_k39_14
 (sSeq b_law_k39_15
 (sSeq b_law_k39_16
 (sSeq b_law_k39_20
 b_law_k39_21)))))))))))))))
def g_law_k39 : Fn := runF 19 b_law_k39
end Com

set_option Elab.async false
set_option linter.all false
set_option maxRecDepth 100000
set_option maxHeartbeats 4000000
/-! sorts: counting, unlike, serves. -/
namespace Com
open PySem PySem.Spec L2 DL
def Sok (z : Str) : Prop := (PyData.str z).canLay0 = true
/-- a name and a way -/
def dP (p : Str × Str) : D := .tuple [.str p.1, .str p.2]
def Pok (p : Str × Str) : Prop := Sok p.1 ∧ Sok p.2
theorem nice_str {k : Nat} {z : Str} (h : Sok z) : Nice k (.str z) := Nice.str h
theorem nice_strs {k : Nat} {xs : List Str} (h : ∀ z ∈ xs, Sok z) : NiceAll k (xs.map .str) := fun d hd => by
  obtain ⟨z, hz, rfl⟩ := List.mem_map.mp hd
  exact Nice.str (h z hz)
theorem nice_dP {p : Str × Str} (h : Pok p) : Nice 1 (dP p) := Nice.tuple (.cons (nice_str h.1) (.cons (nice_str h.2) .nil))
theorem nice_pairs {xs : List (Str × Str)} (h : ∀ z ∈ xs, Pok z) : NiceAll 1 (xs.map dP) := fun d hd => by
  obtain ⟨z, hz, rfl⟩ := List.mem_map.mp hd
  exact nice_dP (h z hz)
theorem NiceAll.mono {j k : Nat} {ds : List D} (h : NiceAll j ds) (hk : j ≤ k) : NiceAll k ds := fun d hd => (h d hd).mono hk
theorem flat_strs {xs : List Str} : (xs.map PyData.str).all flatD = true := by simp [flatD]
theorem mem_strs {xs : List Str} {z : Str} : (PyData.str z ∈ xs.map PyData.str) ↔ z ∈ xs := by simp
theorem map_str_inj {xs ys : List Str} : (xs.map PyData.str = ys.map PyData.str) ↔ xs = ys :=
  ⟨fun h => (List.map_inj_right (fun a b e => by cases e; rfl)).mp h, fun h => by rw [h]⟩
theorem dP_inj {p q : Str × Str} (h : dP p = dP q) : p = q := by
  unfold dP at h
  simp at h
  exact Prod.ext h.1 h.2
theorem map_dP_inj {xs ys : List (Str × Str)} : (xs.map dP = ys.map dP) ↔ xs = ys :=
  ⟨fun h => (List.map_inj_right (fun a b e => dP_inj e)).mp h, fun h => by rw [h]⟩
/-- the pairs that count, behind the names seen -/
def cnt : List Str → List (Str × Str) → List (Str × Str)
  | _, [] => []
  | seen, p :: r => if p.1 ∈ seen then cnt seen r else p :: cnt (seen ++ [p.1]) r
theorem cnt_in {seen : List Str} {p : Str × Str} {r : List (Str × Str)} (h : p.1 ∈ seen) : cnt seen (p :: r) = cnt seen r := by rw [cnt, if_pos h]
theorem cnt_out {seen : List Str} {p : Str × Str} {r : List (Str × Str)} (h : p.1 ∉ seen) : cnt seen (p :: r) = p :: cnt (seen ++ [p.1]) r := by rw [cnt, if_neg h]
theorem cnt_sub : ∀ {seen : List Str} {order : List (Str × Str)}, ∀ p ∈ cnt seen order, p ∈ order
  | _, [], p, h => by cases h
  | seen, q :: r, p, h => by
    unfold cnt at h
    split at h
    · exact List.mem_cons_of_mem _ (cnt_sub p h)
    · rcases List.mem_cons.mp h with e | h
      · rw [e]; exact List.mem_cons_self
      · exact List.mem_cons_of_mem _ (cnt_sub p h)
theorem cnt_len : ∀ {seen : List Str} {order : List (Str × Str)}, (cnt seen order).length ≤ order.length
  | _, [] => Nat.le_refl _
  | seen, q :: r => by
    unfold cnt
    split
    · exact Nat.le_succ_of_le cnt_len
    · exact Nat.succ_le_succ cnt_len
theorem cnt_congr : ∀ {s t : List Str} {order : List (Str × Str)}, (∀ x, x ∈ s ↔ x ∈ t) → cnt s order = cnt t order
  | _, _, [], _ => rfl
  | s, t, q :: r, h => by
    unfold cnt
    by_cases hq : q.1 ∈ s
    · rw [if_pos hq, if_pos ((h _).mp hq), cnt_congr h]
    · rw [if_neg hq, if_neg (fun z => hq ((h _).mpr z)), cnt_congr (s := s ++ [q.1]) (t := t ++ [q.1]) fun x => by simp [h x]]
def ICnt (bys : List Str) (order : List (Str × Str)) (i : Nat) (e : DL.LE) : Prop := ∃ (told : List (Str × Str)) (known : List Str) (k1 k2 : Option Cell), e = [some (.fz (.tuple (bys.map .str))), some (.fz (.tuple (order.map dP))), some (.ow (told.map dP)), some (.ow (known.map .str)), k1, k2] ∧ cnt bys order = told ++ cnt known (order.drop i) ∧ (∀ z ∈ known, Sok z) ∧ known.length ≤ bys.length + i ∧ told.length ≤ i
theorem counting_ok {bys : List Str} {order : List (Str × Str)} (hb : ∀ z ∈ bys, Sok z) (ho : ∀ p ∈ order, Pok p) (hl : bys.length + order.length ≤ 1000000) :
    Okx (g_counting [.tuple (bys.map .str), .tuple (order.map dP)]) (fun c => c = .ow ((cnt bys order).map dP)) noX := by
  refine okx_run ?_
  simp [b_counting, envF]
  refine pq_forI (ICnt bys order) (order.map dP) ?_ ?_ ?_
  · simp
    exact ⟨[], bys, none, none, rfl, rfl, hb, Nat.le_refl _, Nat.le_refl _⟩
  · rintro i e ⟨told, known, k1, k2, rfl, hc, hk, hkl, htl⟩ hi
    simp at hi
    have hp := ho _ (List.getElem_mem hi)
    have hd : order.drop i = order[i] :: order.drop (i + 1) := List.drop_eq_getElem_cons hi
    rw [hd] at hc
    simp only [List.getElem_map]
    generalize order[i] = p at hp hc
    have hin := dNotInC_list (d := .str p.1) (ds := known.map .str) (nice_str hp.1) (nice_strs hk)
    simp [dP, hin]
    by_cases hm : p.1 ∈ known
    · simp only [hm, if_true]
      exact ⟨told, known, _, _, rfl, by rw [hc, cnt_in hm], hk, by omega, by omega⟩
    · simp only [hm, if_false]
      refine ⟨by omega, by omega, told ++ [p], known ++ [p.1], _, _, by rw [List.map_append, List.map_append]; rfl, ?_, ?_, by simp; omega, by simp; omega⟩
      · rw [hc, cnt_out hm]; simp
      · intro z hz
        rcases List.mem_append.mp hz with q | q
        · exact hk z q
        · simp at q; rw [q]; exact hp.1
  · rintro e ⟨told, known, k1, k2, rfl, hc, hk, hkl, htl⟩
    rw [List.length_map, List.drop_length, cnt, List.append_nil] at hc
    simp [hc]
/-- each name once, by its first place -/
def unl : List Str → List Str → List Str
  | acc, [] => acc
  | acc, n :: r => if n ∈ acc then unl acc r else unl (acc ++ [n]) r
theorem unl_in {acc : List Str} {n : Str} {r : List Str} (h : n ∈ acc) : unl acc (n :: r) = unl acc r := by rw [unl, if_pos h]
theorem unl_out {acc : List Str} {n : Str} {r : List Str} (h : n ∉ acc) : unl acc (n :: r) = unl (acc ++ [n]) r := by rw [unl, if_neg h]
theorem unl_mem : ∀ {r acc : List Str} {x : Str}, x ∈ unl acc r ↔ x ∈ acc ∨ x ∈ r
  | [], acc, x => by simp [unl]
  | n :: r, acc, x => by
    by_cases h : n ∈ acc
    · rw [unl_in h, unl_mem]
      constructor
      · rintro (q | q)
        · exact .inl q
        · exact .inr (by simp [q])
      · rintro (q | q)
        · exact .inl q
        · rcases List.mem_cons.mp q with e | e
          · rw [e]; exact .inl h
          · exact .inr e
    · rw [unl_out h, unl_mem]; simp [or_assoc]
theorem unl_nodup : ∀ {r acc : List Str}, acc.Nodup → (unl acc r).Nodup
  | [], acc, h => h
  | n :: r, acc, h => by
    by_cases hn : n ∈ acc
    · rw [unl_in hn]; exact unl_nodup h
    · rw [unl_out hn]
      refine unl_nodup (List.nodup_append.mpr ⟨h, by simp, ?_⟩)
      intro a ha b hb e
      simp at hb
      exact hn (by rw [← hb, ← e]; exact ha)
theorem unl_len : ∀ {r acc : List Str}, (unl acc r).length ≤ acc.length + r.length
  | [], acc => Nat.le_refl _
  | n :: r, acc => by
    by_cases hn : n ∈ acc
    · rw [unl_in hn]; have := unl_len (r := r) (acc := acc); simp; omega
    · rw [unl_out hn]; have := unl_len (r := r) (acc := acc ++ [n]); simp at this ⊢; omega
def IUnl (bys : List Str) (i : Nat) (e : DL.LE) : Prop := ∃ (acc : List Str) (k : Option Cell), e = [some (.fz (.tuple (bys.map .str))), some (.ow (acc.map .str)), k] ∧ unl [] bys = unl acc (bys.drop i) ∧ (∀ z ∈ acc, Sok z) ∧ acc.length ≤ i
theorem unlike_ok {bys : List Str} (hb : ∀ z ∈ bys, Sok z) (hl : bys.length ≤ 1000000) : Okx (g_unlike [.tuple (bys.map .str)]) (fun c => c = .ow ((unl [] bys).map .str)) noX := by
  refine okx_run ?_
  simp [b_unlike, envF]
  refine pq_forI (IUnl bys) (bys.map .str) ?_ ?_ ?_
  · simp
    exact ⟨[], none, rfl, rfl, by simp, Nat.le_refl _⟩
  · rintro i e ⟨acc, k, rfl, hc, hk, hkl⟩ hi
    simp at hi
    have hp := hb _ (List.getElem_mem hi)
    have hd : bys.drop i = bys[i] :: bys.drop (i + 1) := List.drop_eq_getElem_cons hi
    rw [hd] at hc
    simp only [List.getElem_map]
    generalize bys[i] = n at hp hc
    have hin := dNotInC_list (d := .str n) (ds := acc.map .str) (nice_str hp) (nice_strs hk)
    simp [hin]
    by_cases hm : n ∈ acc
    · simp only [hm, if_true]
      exact ⟨acc, _, rfl, by rw [hc, unl_in hm], hk, by omega⟩
    · simp only [hm, if_false]
      refine ⟨by omega, acc ++ [n], _, by rw [List.map_append]; rfl, by rw [hc, unl_out hm], ?_, by simp; omega⟩
      intro z hz
      rcases List.mem_append.mp hz with q | q
      · exact hk z q
      · simp at q; rw [q]; exact hp
  · rintro e ⟨acc, k, rfl, hc, hk, hkl⟩
    rw [List.length_map, List.drop_length, unl] at hc
    simp [hc]
/-! ### the law's own counting: each place apart -/
/-- the pairs from place k on, with all names ahead -/
theorem cnt_step {bys : List Str} {order : List (Str × Str)} {i : Nat} (hi : i < order.length) :
    cnt (bys ++ (order.take i).map (·.1)) (order.drop i) = (if order[i].1 ∉ bys ∧ order[i].1 ∉ (order.take i).map (·.1) then [order[i]] else []) ++ cnt (bys ++ (order.take (i + 1)).map (·.1)) (order.drop (i + 1)) := by
  have hd : order.drop i = order[i] :: order.drop (i + 1) := List.drop_eq_getElem_cons hi
  have ht : (order.take (i + 1)).map (·.1) = (order.take i).map (·.1) ++ [order[i].1] := by
    rw [List.take_succ_eq_append_getElem hi, List.map_append]; rfl
  rw [hd, ht]
  by_cases h : order[i].1 ∈ bys ++ (order.take i).map (·.1)
  · rw [cnt_in h, if_neg (by rw [List.mem_append] at h; rintro ⟨h1, h2⟩; rcases h with h | h; exact h1 h; exact h2 h)]
    refine cnt_congr fun x => ?_
    simp only [List.mem_append, List.mem_singleton]
    rw [List.mem_append] at h
    constructor
    · rintro (q | q)
      · exact .inl q
      · exact .inr (.inl q)
    · rintro (q | q | q)
      · exact .inl q
      · exact .inr q
      · rw [q]; exact h
  · rw [cnt_out h, if_pos (by rw [List.mem_append, not_or] at h; exact h), List.append_assoc]; rfl
def ILCnt (bys : List Str) (order : List (Str × Str)) (i : Nat) (e : DL.LE) : Prop := ∃ (told : List (Str × Str)) (k1 k2 : Option Cell), e = [some (.fz (.tuple (bys.map .str))), some (.fz (.tuple (order.map dP))), some (.ow (told.map dP)), k1, k2, none] ∧ cnt bys order = told ++ cnt (bys ++ (order.take i).map (·.1)) (order.drop i) ∧ told.length ≤ i
theorem dIdx_dP {p : Str × Str} : dIdx (dP p) (.int 0) = some (.fz (.str p.1)) := rfl
theorem dIdx_dP1 {p : Str × Str} : dIdx (dP p) (.int 1) = some (.fz (.str p.2)) := rfl
theorem dIdx_tup_nat {α : Type} {f : α → D} {xs : List α} {i : Nat} (h : i < xs.length) : dIdx (.tuple (xs.map f)) (.int i) = some (.fz (f xs[i])) := by
  rw [dIdx_tuple, atI_nat (by simpa using h)]; simp
theorem dIdx_list_nat {α : Type} {f : α → D} {xs : List α} {i : Nat} (h : i < xs.length) : dIdx (.list (xs.map f)) (.int i) = some (.fz (f xs[i])) := by
  rw [dIdx_list, atI_nat (by simpa using h)]; simp
theorem law_counting_ok {bys : List Str} {order : List (Str × Str)} (hb : ∀ z ∈ bys, Sok z) (ho : ∀ p ∈ order, Pok p) (hl : bys.length + order.length ≤ 1000000) :
    Okx (g_law_counting [.tuple (bys.map .str), .tuple (order.map dP)]) (fun c => c = .ow ((cnt bys order).map dP)) noX := by
  refine okx_run ?_
  simp [b_law_counting, envF]
  refine pq_forI (ILCnt bys order) (rangeD 0 order.length) ?_ ?_ ?_
  · simp [wp_range1]
    exact ⟨by simp [sm62]; omega, [], none, none, rfl, by simp, Nat.le_refl _⟩
  · rintro i e ⟨told, k1, k2, rfl, hc, htl⟩ hi
    simp at hi
    have hp := ho _ (List.getElem_mem hi)
    rw [cnt_step hi] at hc
    have hix : dIdx (.tuple (order.map dP)) (.int i) = some (.fz (dP order[i])) := dIdx_tup_nat hi
    simp only [rangeD_get, Int.zero_add]
    simp
    refine wp_compM dP (fun p => .str p.1) (order.take i) ?_
    have hin1 := dNotInC_tuple (d := .str order[i].1) (ds := bys.map .str) (nice_str hp.1) (nice_strs hb) rfl flat_strs
    have hin2 := dNotInC_list (d := .str order[i].1) (ds := (order.take i).map fun p => .str p.1) (nice_str hp.1) (fun d hd => by
      obtain ⟨q, hq, rfl⟩ := List.mem_map.mp hd
      exact nice_str (ho q (List.mem_of_mem_take hq)).1)
    have hmm : (PyData.str order[i].1 ∈ (order.take i).map fun p => PyData.str p.1) ↔ order[i].1 ∈ (order.take i).map (·.1) := by
      simp only [List.mem_map, PyData.str.injEq]
    simp [-List.map_take, cutM_to, hix, dIdx_dP, hin1]
    refine ⟨by omega, ?_⟩
    by_cases h1 : order[i].1 ∈ bys
    · simp only [h1, if_true]
      exact ⟨told, _, _, rfl, by rw [hc, if_neg (fun z => z.1 h1)]; simp, by omega⟩
    · simp only [h1, if_false]
      simp [-List.map_take, hin2, -List.mem_map, hmm, hix]
      by_cases h2 : order[i].1 ∈ (order.take i).map (·.1)
      · simp only [h2, if_true]
        exact ⟨told, _, _, rfl, by rw [hc, if_neg (fun z => z.2 h2)]; simp, by omega⟩
      · simp only [h2, if_false]
        refine ⟨by omega, told ++ [order[i]], _, _, by rw [List.map_append]; rfl, ?_, by simp; omega⟩
        rw [hc, if_pos ⟨h1, h2⟩]; simp
  · rintro e ⟨told, k1, k2, rfl, hc, htl⟩
    rw [rangeD_length, List.drop_length, cnt, List.append_nil] at hc
    simp [hc]
/-! ### serves -/
/-- what serves tells -/
def srv (sort : List (Str × Str)) (bys : List Str) (order : List (Str × Str)) : Prop :=
  ((sort.take (unl [] bys).length).map (·.1)).Perm (unl [] bys) ∧ (sort.drop (unl [] bys).length).take (cnt bys order).length = cnt bys order
open Classical in
noncomputable def srvB (sort : List (Str × Str)) (bys : List Str) (order : List (Str × Str)) : Bool := decide (srv sort bys order)
open Classical in
theorem srvB_no {sort : List (Str × Str)} {bys : List Str} {order : List (Str × Str)} (h : ¬ srv sort bys order) : srvB sort bys order = false := by unfold srvB; exact decide_eq_false h
theorem cnt_ok {bys : List Str} {order : List (Str × Str)} (ho : ∀ p ∈ order, Pok p) : ∀ p ∈ cnt bys order, Pok p := fun p hp => ho p (cnt_sub p hp)
theorem unl_ok {bys : List Str} (hb : ∀ z ∈ bys, Sok z) : ∀ z ∈ unl [] bys, Sok z := fun z hz => by
  rcases unl_mem.mp hz with q | q
  · cases q
  · exact hb z q
theorem niceL_strs {xs : List Str} (h : ∀ z ∈ xs, Sok z) : Nice 64 (.list (xs.map .str)) := (Nice.list (nice_strs (k := 0) h)).mono (by omega)
theorem niceL_pairs {xs : List (Str × Str)} (h : ∀ z ∈ xs, Pok z) : Nice 64 (.list (xs.map dP)) := (Nice.list (nice_pairs h)).mono (by omega)
theorem serves_ok {sort : List (Str × Str)} {bys : List Str} {order : List (Str × Str)} (hs : ∀ p ∈ sort, Pok p) (hb : ∀ z ∈ bys, Sok z) (ho : ∀ p ∈ order, Pok p) (hl : bys.length + order.length ≤ 1000000) (hsl : sort.length ≤ 1000000) :
    Okx (g_serves [.list (sort.map dP), .tuple (bys.map .str), .tuple (order.map dP)]) (fun c => c = .fz (.bool (srvB sort bys order))) noX := by
  refine okx_run ?_
  simp [b_serves, envF]
  refine (unlike_ok hb (by omega)).imp (fun c hc => ?_) (fun _ h => h)
  subst hc
  refine (counting_ok hb ho hl).imp (fun c hc => ?_) (fun _ h => h)
  subst hc
  have hun := unl_ok hb
  have hcn := cnt_ok (bys := bys) ho
  refine wp_compM dP (fun p => .str p.1) (sort.take (unl [] bys).length) ?_
  generalize hA : (sort.take (unl [] bys).length).map (·.1) = A
  have hAd : (sort.take (unl [] bys).length).map (fun p => PyData.str p.1) = A.map .str := by rw [← hA, List.map_map]; rfl
  have hAok : ∀ z ∈ A, Sok z := fun z hz => by
    rw [← hA] at hz
    obtain ⟨q, hq, rfl⟩ := List.mem_map.mp hz
    exact (hs q (List.mem_of_mem_take hq)).1
  have hS : ∀ {xs : List Str}, (∀ z ∈ xs, Sok z) → ∀ z ∈ sortS xs, Sok z := fun h z hz => h z ((sortS_perm _).mem_iff.mp hz)
  have hB : ∀ p ∈ (sort.drop (unl [] bys).length).take (cnt bys order).length, Pok p := fun p hp => hs p (List.mem_of_mem_drop (List.mem_of_mem_take hp))
  have hsz : sizeLine = 16777216 := rfl
  simp [-List.map_take, -List.map_drop, cutM_to, dP, hAd, -bSorted_list]
  refine ⟨by omega, ?_⟩
  rw [dEq_nice (niceL_strs (hS hAok)) (niceL_strs (hS hun))]
  simp [-List.map_take, -List.map_drop, map_str_inj, sortS_eq]
  have hcast : ((unl [] bys).length : Int) + ((cnt bys order).length : Int) = (((unl [] bys).length + (cnt bys order).length : Nat) : Int) := by omega
  by_cases h1 : A.Perm (unl [] bys)
  · simp only [h1, if_true]
    rw [hcast, cutM_mid, Nat.add_sub_cancel_left, dEq_nice (niceL_pairs hB) (niceL_pairs hcn)]
    simp [-List.map_take, -List.map_drop, map_dP_inj]
    unfold srvB srv
    rw [hA]
    simp [h1]
  · simp only [h1, if_false]
    unfold srvB srv
    rw [hA]
    simp [h1]
theorem perm_of_sub : ∀ {xs ys : List Str}, xs.Nodup → (∀ x ∈ xs, x ∈ ys) → ys.length = xs.length → ys.Perm xs
  | [], ys, _, _, h => by
    have : ys = [] := List.eq_nil_of_length_eq_zero h
    rw [this]
  | x :: xs, ys, hn, hs, hl => by
    have hx := hs x (by simp)
    have hp := List.perm_cons_erase hx
    have hn' := List.nodup_cons.mp hn
    have : (ys.erase x).Perm xs := perm_of_sub hn'.2 (fun z hz => by
      have hzy := hs z (by simp [hz])
      exact (List.mem_erase_of_ne (fun e => hn'.1 (by rw [← e]; exact hz))).mpr hzy) (by
      have := hp.length_eq
      simp at this hl; omega)
    exact hp.trans (this.cons x)
/-! ### the law's own serves -/
def ILSrv (sort : List (Str × Str)) (bys : List Str) (order : List (Str × Str)) (i : Nat) (e : DL.LE) : Prop := ∃ (acc : List Str) (k : Option Cell), e = [some (.fz (.list (sort.map dP))), some (.fz (.tuple (bys.map .str))), some (.fz (.tuple (order.map dP))), some (.ow (acc.map .str)), k, none, none, none, none] ∧ unl [] bys = unl acc (bys.drop i) ∧ (∀ z ∈ acc, Sok z) ∧ acc.length ≤ i
theorem law_serves_ok {sort : List (Str × Str)} {bys : List Str} {order : List (Str × Str)} (hs : ∀ p ∈ sort, Pok p) (hb : ∀ z ∈ bys, Sok z) (ho : ∀ p ∈ order, Pok p) (hl : bys.length + order.length ≤ 1000000) (hsl : sort.length ≤ 1000000) :
    Okx (g_law_serves [.list (sort.map dP), .tuple (bys.map .str), .tuple (order.map dP)]) (fun c => c = .fz (.bool (srvB sort bys order))) noX := by
  refine okx_run ?_
  simp [b_law_serves, envF]
  refine pq_forI (ILSrv sort bys order) (bys.map .str) ?_ ?_ ?_
  · simp
    exact ⟨[], none, rfl, rfl, by simp, Nat.le_refl _⟩
  · rintro i e ⟨acc, k, rfl, hc, hk, hkl⟩ hi
    simp at hi
    have hp := hb _ (List.getElem_mem hi)
    have hd : bys.drop i = bys[i] :: bys.drop (i + 1) := List.drop_eq_getElem_cons hi
    rw [hd] at hc
    simp only [List.getElem_map]
    generalize bys[i] = n at hp hc
    have hin := dNotInC_list (d := .str n) (ds := acc.map .str) (nice_str hp) (nice_strs hk)
    simp [hin]
    by_cases hm : n ∈ acc
    · simp only [hm, if_true]
      exact ⟨acc, _, rfl, by rw [hc, unl_in hm], hk, by omega⟩
    · simp only [hm, if_false]
      refine ⟨by omega, acc ++ [n], _, by rw [List.map_append]; rfl, by rw [hc, unl_out hm], ?_, by simp; omega⟩
      intro z hz
      rcases List.mem_append.mp hz with q | q
      · exact hk z q
      · simp at q; rw [q]; exact hp
  · rintro e ⟨acc, k, rfl, hc, hk, hkl⟩
    rw [List.length_map, List.drop_length, unl] at hc
    rw [← hc] at hk ⊢
    simp
    refine (law_counting_ok hb ho hl).imp (fun c hc => ?_) (fun _ h => h)
    subst hc
    have hcn := cnt_ok (bys := bys) ho
    have hun := unl_len (r := bys) (acc := [])
    have hcl := cnt_len (seen := bys) (order := order)
    simp at hun
    refine wp_compM dP (fun p => .str p.1) (sort.take (unl [] bys).length) ?_
    generalize hA : (sort.take (unl [] bys).length).map (·.1) = A
    have hAd : (sort.take (unl [] bys).length).map (fun p => PyData.str p.1) = A.map .str := by rw [← hA, List.map_map]; rfl
    have hAok : ∀ z ∈ A, Sok z := fun z hz => by
      rw [← hA] at hz
      obtain ⟨q, hq, rfl⟩ := List.mem_map.mp hz
      exact (hs q (List.mem_of_mem_take hq)).1
    simp [-List.map_take, -List.map_drop, cutM_to, dIdx_dP, hAd]
    refine ⟨by omega, ?_⟩
    have hlA : A.length = min (unl [] bys).length sort.length := by rw [← hA]; simp
    by_cases hlt : sort.length < (unl [] bys).length + (cnt bys order).length
    · rw [if_pos (by omega)]
      refine srvB_no fun z => ?_
      unfold srv at z
      rw [hA] at z
      obtain ⟨z1, z2⟩ := z
      have := z1.length_eq
      have h2 := congrArg List.length z2
      simp at h2
      omega
    · rw [if_neg (by omega)]
      refine wp_comp PyData.str PyData.str (fun z => !decide (z ∈ A)) (unl [] bys) ?_
      simp [-List.map_take, -List.map_drop]
      refine ⟨by omega, ?_, fun z hz => ?_⟩
      · have hfo : ∀ z ∈ (unl [] bys).filter (fun z => !decide (z ∈ A)), Sok z := fun z hz => hk z (List.mem_filter.mp hz).1
        have hne : dNe (.list (((unl [] bys).filter (fun z => !decide (z ∈ A))).map .str)) (.list []) = some (.fz (.bool (!decide ((unl [] bys).filter (fun z => !decide (z ∈ A)) = [])))) := by
          refine (dNe_nice (niceL_strs hfo) ((Nice.list (k := 0) .nil).mono (by omega))).trans ?_
          simp
        rw [hne]
        simp only [wp_lift_some, wp_asB]
        by_cases hf : (unl [] bys).filter (fun z => !decide (z ∈ A)) = []
        · rw [decide_eq_true hf]
          simp only [Bool.not_true, Bool.false_eq_true, if_false]
          have hsub : ∀ z ∈ unl [] bys, z ∈ A := fun z hz => by
            have := List.filter_eq_nil_iff.mp hf z hz
            simpa using this
          have hperm : A.Perm (unl [] bys) := perm_of_sub (unl_nodup (by simp)) hsub (by omega)
          have hBok : ∀ p ∈ (sort.drop (unl [] bys).length).take (cnt bys order).length, Pok p := fun p hp => hs p (List.mem_of_mem_drop (List.mem_of_mem_take hp))
          refine wp_compM (γ := Nat) (fun k => .int k) (fun k => dP (sort[(unl [] bys).length + k]?.getD ("", ""))) (List.range (cnt bys order).length) ?_
          have hmap : (List.range (cnt bys order).length).map (fun k => dP (sort[(unl [] bys).length + k]?.getD ("", ""))) = ((sort.drop (unl [] bys).length).take (cnt bys order).length).map dP := by
            apply List.ext_getElem
            · simp; omega
            · intro i h1 h2
              simp at h1 h2 ⊢
              rw [List.getElem?_eq_getElem (by omega)]; rfl
          simp [-List.map_take, -List.map_drop, wp_range1, hmap]
          refine ⟨by simp [sm62]; omega, by simp [rangeD], by omega, ?_, fun k hk' => ?_⟩
          · rw [dEq_nice (niceL_pairs hBok) (niceL_pairs hcn)]
            simp [-List.map_take, -List.map_drop, map_dP_inj]
            unfold srvB srv
            rw [hA]
            simp [hperm]
          · have hc2 : ((unl [] bys).length : Int) + (k : Int) = (((unl [] bys).length + k : Nat) : Int) := by omega
            rw [hc2, dIdx_list_nat (by omega)]
            simp
            rw [List.getElem?_eq_getElem (by omega)]; rfl
        · rw [decide_eq_false hf]
          simp only [Bool.not_false, if_true]
          refine srvB_no fun z => hf ?_
          unfold srv at z
          rw [hA] at z
          obtain ⟨z1, _⟩ := z
          rw [List.filter_eq_nil_iff]
          intro z hz
          simp
          exact z1.mem_iff.mpr hz
      · have hin := dNotInC_list (d := .str z) (ds := A.map .str) (nice_str (hk z hz)) (nice_strs hAok)
        simp [hin]
end Com

set_option Elab.async false
set_option linter.all false
set_option maxRecDepth 100000
set_option maxHeartbeats 4000000
/-! the laws' own copy of data. -/
namespace Com
open PySem PySem.Spec L2 DL
/-! ### a copy -/
/-- how the copy of d is laid: a list is a new one -/
def ownC : D → Cell
  | .list ds => .ow ds
  | d => .fz d
theorem ownC_data (d : D) : (ownC d).data = some d := by cases d <;> rfl
@[simp] theorem wp_dat_ownC {e : DL.LE} {X : Str → Prop} {d : D} {P : D → DL.LE → Prop} : Wp (dat (ownC d) e) P X = P d e := by cases d <;> simp [ownC]
/-- lists and tuples, so deep, of Nones, ints, texts, no longer than that -/
def Cpy : Nat → D → Prop
  | _, .none => True
  | _, .int _ => True
  | _, .str _ => True
  | n + 1, .list ds => ds.length ≤ 1000000 ∧ ∀ d ∈ ds, Cpy n d
  | n + 1, .tuple ds => ds.length ≤ 1000000 ∧ ∀ d ∈ ds, Cpy n d
  | _, _ => False
theorem own_r : ∀ (n : Nat) (d : D), Cpy n d → Okx (g_law_own_r (n + 1) [d]) (fun c => c = ownC d) noX := by
  intro n
  induction n with
  | zero =>
    intro d h
    show Okx (runF 4 (b_law_own (g_law_own_r 0)) [d]) _ _
    refine okx_run ?_
    cases d <;> simp [Cpy] at h <;> simp [b_law_own, envF, ownC]
  | succ n ih =>
    intro d h
    show Okx (runF 4 (b_law_own (g_law_own_r (n + 1))) [d]) _ _
    refine okx_run ?_
    cases d with
    | none => simp [b_law_own, envF, ownC]
    | int i => simp [b_law_own, envF, ownC]
    | str z => simp [b_law_own, envF, ownC]
    | bool b => simp [Cpy] at h
    | dict b => simp [Cpy] at h
    | list ds =>
      simp [Cpy] at h
      simp [b_law_own, envF]
      refine wp_compM id id ds ?_
      simp [ownC]
      exact ⟨by omega, fun x hx => (ih x (h.2 x hx)).imp (fun c hc => by subst hc; simp) (fun _ z => z)⟩
    | tuple ds =>
      simp [Cpy] at h
      simp [b_law_own, envF]
      have go : Wp (mComp [3] (setD 3) (DL.ret true) (bnd (mCall (g_law_own_r (n + 1)) (mCons (fr 3) mNil)) dat) (mIter (pk 0)) [some (.fz (.tuple ds)), none, none, none]) (fun a e' => Wp (dat a e') (fun d e' => Wp (lift (bTuple [d]) e') (fun c _ => c = ownC (.tuple ds)) noX) noX) noX := by
        refine wp_compM id id ds ?_
        simp [ownC]
        exact ⟨by omega, fun x hx => (ih x (h.2 x hx)).imp (fun c hc => by subst hc; simp) (fun _ z => z)⟩
      cases ds with
      | nil => simpa using go
      | cons a r =>
        have hix : dIdx (.tuple (a :: r)) (.int 0) = some (.fz a) := by rw [dIdx_tuple, show (0 : Int) = ((0 : Nat) : Int) from rfl, DL.atI_nat (by simp)]; rfl
        simp [hix]
        split
        · rfl
        · exact go
theorem own_ok {d : D} (h : Cpy 5 d) : Okx (g_law_own [d]) (fun c => c = ownC d) noX := own_r 5 d h
theorem cpy_strs {n : Nat} {xs : List Str} (h : xs.length ≤ 1000000) : Cpy (n + 1) (.tuple (xs.map .str)) := ⟨by simpa using h, fun d hd => by
  obtain ⟨z, _, rfl⟩ := List.mem_map.mp hd
  cases n <;> trivial⟩
theorem cpy_dP {n : Nat} {p : Str × Str} : Cpy (n + 1) (dP p) := ⟨by simp, fun d hd => by
  simp at hd
  rcases hd with rfl | rfl <;> cases n <;> trivial⟩
theorem cpy_pairs {n : Nat} {xs : List (Str × Str)} (h : xs.length ≤ 1000000) : Cpy (n + 2) (.tuple (xs.map dP)) := ⟨by simpa using h, fun d hd => by
  obtain ⟨z, _, rfl⟩ := List.mem_map.mp hd
  exact cpy_dP⟩
theorem cpy_pairsL {n : Nat} {xs : List (Str × Str)} (h : xs.length ≤ 1000000) : Cpy (n + 2) (.list (xs.map dP)) := ⟨by simpa using h, fun d hd => by
  obtain ⟨z, _, rfl⟩ := List.mem_map.mp hd
  exact cpy_dP⟩
end Com

set_option Elab.async false
set_option linter.all false
set_option maxRecDepth 100000
set_option maxHeartbeats 4000000
/-! the laws' drawn numbers: a list of so many, each below the base. -/
namespace Com
open PySem PySem.Spec L2 DL
def IDraws (cell : Int) (many : Nat) (base : Int) (i : Nat) (e : DL.LE) : Prop := ∃ (ns : List Int) (rest st : Int) (k : Option Cell), e = [some (.fz (.int cell)), some (.fz (.int many)), some (.fz (.int base)), some (.ow (ns.map .int)), some (.fz (.int rest)), some (.fz (.int st)), k] ∧ 0 ≤ st ∧ st < 2305843009213693951 ∧ ns.length = i - 3 ∧ ∀ n ∈ ns, 0 ≤ n ∧ n < base
theorem in_snoc {ns : List Int} {x b : Int} (h : ∀ n ∈ ns, 0 ≤ n ∧ n < b) (h0 : 0 ≤ x) (h1 : x < b) : ∀ n ∈ ns ++ [x], 0 ≤ n ∧ n < b := fun n hn => by
  rcases List.mem_append.mp hn with q | q
  · exact h n q
  · simp at q; subst q; exact ⟨h0, h1⟩
theorem law_draws_ok (cell : Int) (many : Nat) (base : Int) (hb : 0 < base) (hl : base.natAbs.log2 < 9000) (hm : many ≤ 100000) :
    Okx (g_law_draws [.int cell, .int many, .int base]) (fun c => ∃ ns : List Int, c = .ow (ns.map .int) ∧ ns.length = many ∧ ∀ n ∈ ns, 0 ≤ n ∧ n < base) noX := by
  refine okx_run ?_
  simp [b_law_draws, envF]
  refine ⟨?_, ?_⟩
  · unfold mulOk; split <;> simp
  refine pq_forI (IDraws cell many base) (rangeD 0 (many + 3)) ?_ ?_ ?_
  · simp [wp_range1]
    refine ⟨?_, ?_, ?_⟩
    · simp [sm62]; omega
    · have : ((many : Int) + 3).toNat = many + 3 := by omega
      rw [this]
    · exact ⟨[], _, _, none, rfl, by omega, by omega, rfl, by simp⟩
  · rintro i e ⟨ns, rest, st, k, rfl, h0, h1, hlen, hns⟩ hi
    simp at hi
    simp
    refine ⟨mulOk_l h0 (by omega), mulOk_l (by omega) (by omega), ?_⟩
    generalize hst : (st * st + 48271 * st + (i : Int) + 1) % 2305843009213693951 = st'
    have g0 : 0 ≤ st' := by rw [← hst]; exact Int.emod_nonneg _ (by omega)
    have g1 : st' < 2305843009213693951 := by rw [← hst]; exact Int.emod_lt_of_pos _ (by omega)
    have g4 : Nat.log2 4096 < 9000 := by decide
    by_cases hi2 : (2 : Int) < i
    · have hl1 : ns.length + 1 = i + 1 - 3 := by omega
      simp only [hi2, if_true]
      split
      · exact ⟨hb, by omega, ⟨hb, hl⟩, ns ++ [rest % base], rest / base, st', _, by rw [List.map_append]; rfl, g0, g1, by simp [hl1], in_snoc hns (Int.emod_nonneg _ (by omega)) (Int.emod_lt_of_pos _ hb)⟩
      · exact ⟨g4, hb, by omega, ns ++ [st' / 4096 % base], rest, st', _, by rw [List.map_append]; rfl, g0, g1, by simp [hl1], in_snoc hns (Int.emod_nonneg _ (by omega)) (Int.emod_lt_of_pos _ hb)⟩
    · simp only [hi2, if_false]
      exact ⟨ns, _, _, _, rfl, g0, g1, by omega, hns⟩
  · rintro e ⟨ns, rest, st, k, rfl, h0, h1, hlen, hns⟩
    simp at hlen ⊢
    exact ⟨ns, rfl, by omega, hns⟩
theorem law_a_draws_ok (cell : Int) (many : Nat) (base : Int) (hb : 0 < base) (hl : base.natAbs.log2 < 9000) (hm : many ≤ 100000) :
    Okx (g_law_a_draws [.int cell, .int many, .int base]) (fun c => ∃ ns : List Int, c = .ow (ns.map .int) ∧ ns.length = many ∧ ∀ n ∈ ns, 0 ≤ n ∧ n < base) noX := law_draws_ok cell many base hb hl hm
end Com

set_option Elab.async false
set_option linter.all false
set_option maxRecDepth 100000
set_option maxHeartbeats 4000000
/-! the laws' drawn tables. -/
namespace Com
open PySem PySem.Spec L2 DL
/-! ### texts of one sign, joined -/
def sg (c : Nat) : Str := ⟨#[c]⟩
def sgD (c : Nat) : D := .str (sg c)
def Low (c : Nat) : Prop := 97 ≤ c ∧ c ≤ 122
/-- a name -/
structure NameOk (z : Str) : Prop where
  lo : 1 ≤ z.length
  hi : z.length ≤ 8
  low : ∀ c ∈ z.cps.toList, Low c
abbrev lets : Str := "abcdefghijklmnopqrstuvwxyz"
theorem lets_cps : lets.cps.toList = List.range' 97 26 := by decide +kernel
theorem lets_len : lets.length = 26 := by decide +kernel
theorem lets_mem {c : Nat} : c ∈ lets.cps.toList ↔ Low c := by
  rw [lets_cps, List.mem_range'_1]; unfold Low; omega
theorem dIdx_lets {i : Int} (h0 : 0 ≤ i) (h : i < 26) : dIdx (.str lets) (.int i) = some (.fz (sgD (97 + i.toNat))) := by
  show (if lets.length ≤ sizeLine then (atI lets.cps.toList i).map fun c => Cell.fz (signD c) else none) = _
  rw [if_pos (by rw [lets_len, sizeLine_eq]; omega), lets_cps, atI_in h0 (by simpa using h)]
  simp [signD, sg, sgD]
theorem txt_join (a : Str) (l : List Str) : Txt.join a l = Str.join a l := eq_of_beq (PyProof.Rows.join_plain_closes a l)
theorem join_sg (cs : List Nat) : Txt.join (Str.ofString "") (cs.map sg) = ⟨cs.toArray⟩ := by
  rw [txt_join]
  exact PyProof.Rows.join_nil_signs ⟨cs.toArray⟩
theorem sJoin_sg {cs : List Nat} (h : cs.length ≤ 1000) : sJoin (Str.ofString "") (.list (cs.map sgD)) = some (.fz (.str ⟨cs.toArray⟩)) := by
  have e0 : cs.map sgD = (cs.map sg).map PyData.str := by rw [List.map_map]; rfl
  rw [e0]
  show (match strsOf ((cs.map sg).map PyData.str) with
    | some ys => if (ys.map fun z : Str => z.length).sum + ys.length * (Str.ofString "").length ≤ 16777216 then some (Cell.fz (.str (Txt.join (Str.ofString "") ys))) else none
    | none => none) = _
  rw [strsOf_map]
  have e : ((cs.map sg).map (fun z : Str => z.length)).sum = cs.length := by
    rw [List.map_map]
    have : (fun c => (sg c).length) = fun _ => 1 := rfl
    show (cs.map fun c => (sg c).length).sum = _
    rw [this]
    clear h this e0
    induction cs with
    | nil => rfl
    | cons c cs ih =>
      rw [List.map_cons, List.sum_cons, ih, List.length_cons]
      omega
  have e2 : (Str.ofString "").length = 0 := by decide +kernel
  simp only [e, e2, join_sg]
  rw [if_pos (by omega)]
/-! ### the drawn names -/
/-- the sign by which the drawn names differ -/
def markC (a step : Int) (k : Nat) : Nat := 97 + ((a + step * k) % 26).toNat
theorem mark_low {a step : Int} {k : Nat} : Low (markC a step k) := by
  unfold markC Low
  have := mod_in (n := a + step * k) (m := 26) (by omega)
  omega
theorem mark_inj {a step : Int} {j k : Nat} (hs : step = 1 ∨ step = 3 ∨ step = 5 ∨ step = 7 ∨ step = 9 ∨ step = 11) (hj : j < 8) (hk : k < 8) (h : markC a step j = markC a step k) : j = k := by
  unfold markC at h
  rcases hs with rfl | rfl | rfl | rfl | rfl | rfl <;> omega
def INames (ds : List Int) (many : Nat) (cs : List Nat) (a : Nat) (step : Int) (i : Nat) (e : DL.LE) : Prop := ∃ (names : List Str) (k7 k8 k9 : Option Cell),
  e = [some (.fz (.list (ds.map .int))), some (.fz (.int many)), some (.fz (.str lets)), some (.ow (cs.map sgD)), some (.fz (.int a)), some (.fz (.int step)), some (.ow (names.map .str)), k7, k8, k9] ∧
  names.length = i ∧ names.Nodup ∧ ∀ z ∈ names, NameOk z ∧ ∃ k, k < i ∧ z.cps.toList[if gi ds 12 % 2 = 0 then 0 else a]? = some (markC (gi ds 11) step k)
theorem ins_mem {α : Type} {xs : List α} {x z : α} {j : Nat} (h : z ∈ xs.take j ++ x :: xs.drop j) : z ∈ xs ∨ z = x := by
  simp at h
  rcases h with h | h | h
  · exact .inl (List.mem_of_mem_take h)
  · exact .inr h
  · exact .inl (List.mem_of_mem_drop h)
theorem ins_perm {α : Type} {xs : List α} {x : α} {j : Nat} : (xs.take j ++ x :: xs.drop j).Perm (x :: xs) := by
  have := (List.perm_middle (a := x) (l₁ := xs.take j) (l₂ := xs.drop j))
  rwa [List.take_append_drop] at this
theorem names_step {ds : List Int} {many : Nat} {cs : List Nat} {a : Nat} {step : Int} {i : Nat} {names : List Str} {k7 k8 k9 : Option Cell} {cs2 : List Nat} {j : Nat}
    (hs : step = 1 ∨ step = 3 ∨ step = 5 ∨ step = 7 ∨ step = 9 ∨ step = 11) (hi : i < 8) (hn : names.length = i) (nd : names.Nodup)
    (hz : ∀ z ∈ names, NameOk z ∧ ∃ k, k < i ∧ z.cps.toList[if gi ds 12 % 2 = 0 then 0 else a]? = some (markC (gi ds 11) step k))
    (l2 : 1 ≤ cs2.length) (hw : ∀ c ∈ cs2, Low c) (hm : (cs2.take 8)[if gi ds 12 % 2 = 0 then 0 else a]? = some (markC (gi ds 11) step i)) :
    INames ds many cs a step (i + 1) [some (.fz (.list (ds.map .int))), some (.fz (.int many)), some (.fz (.str lets)), some (.ow (cs.map sgD)), some (.fz (.int a)), some (.fz (.int step)), some (.ow ((names.take j ++ (⟨(cs2.take 8).toArray⟩ : Str) :: names.drop j).map .str)), k7, k8, k9] := by
  refine ⟨_, k7, k8, k9, rfl, ?_, ?_, ?_⟩
  · rw [ins_perm.length_eq, List.length_cons, hn]
  · rw [ins_perm.nodup_iff, List.nodup_cons]
    refine ⟨fun hmem => ?_, nd⟩
    obtain ⟨_, k, hk, e⟩ := hz _ hmem
    have e2 : (cs2.take 8)[if gi ds 12 % 2 = 0 then 0 else a]? = some (markC (gi ds 11) step k) := by simpa using e
    rw [hm] at e2
    have := mark_inj hs hi (by omega) (Option.some.inj e2)
    omega
  · intro z h
    rcases ins_mem h with h | h
    · obtain ⟨h1, k, h2, h3⟩ := hz z h
      exact ⟨h1, k, by omega, h3⟩
    · subst h
      refine ⟨⟨?_, ?_, ?_⟩, i, by omega, by simpa using hm⟩
      · show 1 ≤ (cs2.take 8).toArray.size
        rw [List.size_toArray, List.length_take]; omega
      · show (cs2.take 8).toArray.size ≤ 8
        rw [List.size_toArray, List.length_take]; omega
      · intro c hc
        exact hw c (List.mem_of_mem_take (by simpa using hc))
theorem law_a_names_ok {ds : List Int} {many : Nat} (hl : ds.length = 24) (hr : ∀ n ∈ ds, 0 ≤ n ∧ n < 1000) (hm : many ≤ 8) :
    Okx (g_law_a_names [.list (ds.map .int), .int many]) (fun c => ∃ names : List Str, c = .ow (names.map .str) ∧ names.length = many ∧ names.Nodup ∧ ∀ z ∈ names, NameOk z) noX := by
  refine okx_run ?_
  simp [b_law_a_names, envF, dIdx_intsL, hl]
  have g8 := mod_in (n := gi ds 8) (m := 8) (by omega)
  obtain ⟨m, hm8⟩ := Int.eq_ofNat_of_zero_le (show 0 ≤ 1 + gi ds 8 % 8 by omega)
  have hmm : 1 ≤ m ∧ m ≤ 8 := by omega
  refine wp_compM .int (fun x => sgD (97 + (x % 26).toNat)) (ds.take m) ?_
  simp [dIdx_intsL, hl, hm8]
  refine ⟨by simpa using cutM_to (f := PyData.int) (xs := ds) (k := m), by omega, ?_, fun x hx => ?_⟩
  · have hcl : (List.map (fun x => sgD (97 + (x % 26).toNat)) (ds.take m)) = ((ds.take m).map fun x => 97 + (x % 26).toNat).map sgD := by simp only [List.map_map]; rfl
    have hcm : ((ds.take m).map fun x => 97 + (x % 26).toNat).length = m := by simp; omega
    have hcw : ∀ c ∈ (ds.take m).map (fun x => 97 + (x % 26).toNat), Low c := fun c hc => by
      obtain ⟨x, _, rfl⟩ := List.mem_map.mp hc
      have := mod_in (n := x) (m := 26) (by omega)
      unfold Low
      omega
    have hcl2 := hcl
    rw [List.map_take] at hcl2
    rw [hcl2]
    clear hcl hcl2
    generalize ((ds.take m).map fun x => 97 + (x % 26).toNat) = cs at hcm hcw ⊢
    have hm24 : min m 24 = m := by omega
    rw [hm24]
    refine ⟨by omega, ?_⟩
    have ga := mod_in (n := gi ds 9) (m := (m : Int)) (by omega)
    obtain ⟨a, ha⟩ := Int.eq_ofNat_of_zero_le ga.1
    rw [ha]
    have ham : a < m := by omega
    have gs := mod_in (n := gi ds 10) (m := 6) (by omega)
    obtain ⟨d, hd, ed⟩ := dIdx_mem (ds := [PyData.int 1, .int 3, .int 5, .int 7, .int 9, .int 11]) gs.1 gs.2
    obtain ⟨step, rfl, hs⟩ : ∃ step : Int, d = .int step ∧ (step = 1 ∨ step = 3 ∨ step = 5 ∨ step = 7 ∨ step = 9 ∨ step = 11) := by
      simp at hd
      rcases hd with rfl | rfl | rfl | rfl | rfl | rfl <;> exact ⟨_, rfl, by omega⟩
    simp [ed]
    refine pq_forI (INames ds many cs a step) (rangeD 0 many) ?_ ?_ ?_
    · simp [wp_range1]
      exact ⟨by simp [sm62]; omega, [], none, none, none, rfl, rfl, .nil, fun z hz => by cases hz⟩
    · rintro i e ⟨names, k7, k8, k9, rfl, hn, nd, hz⟩ hi
      simp at hi
      have hi8 : i < 8 := by omega
      have e13 : dIdx (.list (ds.map .int)) (.int (13 + (i : Int))) = some (.fz (.int (gi ds (13 + i)))) := by
        rw [show (13 : Int) + i = ((13 + i : Nat) : Int) by omega]; exact dIdx_ints (by omega)
      have e14 : dIdx (.list (ds.map .int)) (.int (14 + (i : Int))) = some (.fz (.int (gi ds (14 + i)))) := by
        rw [show (14 : Int) + i = ((14 + i : Nat) : Int) by omega]; exact dIdx_ints (by omega)
      have gm := mod_in (n := gi ds 11 + step * i) (m := 26) (by omega)
      have hmk : 97 + ((gi ds 11 + step * i) % 26).toNat = markC (gi ds 11) step i := rfl
      have hch : Low (markC (gi ds 11) step i) := mark_low
      have hmul : mulOk step i = true := mulOk_l (by omega) (by omega)
      have hset : (cs.map sgD).set a (sgD (markC (gi ds 11) step i)) = (cs.set a (markC (gi ds 11) step i)).map sgD := by
        rw [List.map_set]
      have hcs1 : ∀ c ∈ cs.set a (markC (gi ds 11) step i), Low c := fun c hc => by
        rcases List.mem_or_eq_of_mem_set hc with q | q
        · exact hcw c q
        · rw [q]; exact hch
      have gj := mod_in (n := gi ds (14 + i)) (m := (names.length : Int) + 1) (by omega)
      simp [-List.map_set, dIdx_intsL, hl, hmul, dIdx_lets gm.1 gm.2, hmk, ixN_nat (show a < cs.length by omega), e13, e14, hset]
      obtain ⟨j, hj⟩ := Int.eq_ofNat_of_zero_le gj.1
      have gq := mod_in (n := gi ds (13 + i)) (m := 8) (by omega)
      obtain ⟨q, hq⟩ := Int.eq_ofNat_of_zero_le gq.1
      rw [hj, hq]
      have hjn : j ≤ names.length := by omega
      generalize hcs : cs.set a (markC (gi ds 11) step i) = cs1 at hcs1
      have hl1 : cs1.length = m := by rw [← hcs, List.length_set, hcm]
      have hat : cs1[a]? = some (markC (gi ds 11) step i) := by rw [← hcs, List.getElem?_set_self (by omega)]
      have c8 : ∀ l : List Nat, cutD (l.map sgD) none (some 8) = (l.take 8).map sgD := fun l => cutM_to (k := 8)
      split
      · rename_i hev
        have ca : cutD (cs1.map sgD) (some (a : Int)) (some ((a : Int) + 1)) = [markC (gi ds 11) step i].map sgD := by
          rw [show (a : Int) + 1 = ((a + 1 : Nat) : Int) by omega, cutM_mid, show a + 1 - a = 1 by omega]
          congr 1
          rw [List.take_one, List.head?_drop, hat]; rfl
        rw [ca, cutM_to, ← List.map_append, c8]
        have hlen : ([markC (gi ds 11) step i] ++ cs1.take q).length ≤ 100 := by simp; omega
        generalize hc2 : [markC (gi ds 11) step i] ++ cs1.take q = cs2 at hlen
        rw [sJoin_sg (by rw [List.length_take]; omega)]
        refine ⟨by simp [sizeLine_eq]; omega, ?_⟩
        simp
        refine ⟨⟨by omega, by omega⟩, ?_⟩
        have := names_step (many := many) (cs := cs) (k7 := some (.fz (.int i))) (k8 := some (.ow (cs2.map sgD))) (k9 := k9) (j := j) hs hi8 hn nd hz (cs2 := cs2) (by rw [← hc2]; simp) (fun c hc => by
          rw [← hc2] at hc
          rcases List.mem_append.mp hc with z | z
          · simp at z; rw [z]; exact hch
          · exact hcs1 c (List.mem_of_mem_take z)) (by rw [if_pos hev, ← hc2]; rfl)
        simpa using this
      · rename_i hod
        rw [c8, sJoin_sg (by rw [List.length_take]; omega)]
        simp
        refine ⟨⟨by omega, by omega⟩, ?_⟩
        have := names_step (many := many) (cs := cs) (k7 := some (.fz (.int i))) (k8 := some (.ow (cs1.map sgD))) (k9 := k9) (j := j) hs hi8 hn nd hz (cs2 := cs1) (by omega) hcs1 (by
          rw [if_neg hod, List.getElem?_take_of_lt (by omega)]; exact hat)
        simpa using this
    · rintro e ⟨names, k7, k8, k9, rfl, hn, nd, hz⟩
      simp at hn
      simp
      exact ⟨names, rfl, hn, nd, fun z h => (hz z h).1⟩
  · have hx26 := mod_in (n := x) (m := 26) (by omega)
    simp [dIdx_lets hx26.1 hx26.2]
end Com

set_option Elab.async false
set_option linter.all false
set_option maxRecDepth 100000
set_option maxHeartbeats 4000000
/-! the laws' drawn tables: names and rows. -/
namespace Com
open PySem PySem.Spec L2 DL
/-- a worth -/
def dW : Option Int → D
  | none => .none
  | some i => .int i
/-- a row -/
def dR (r : List (Option Int)) : D := .tuple (r.map dW)
abbrev big : Int := 1000000000000000000000000000000
def WOk (w : Option Int) : Prop := ∀ i, w = some i → -big ≤ i ∧ i ≤ big
structure Tab (names : List Str) (rows : List (List (Option Int))) : Prop where
  n1 : 1 ≤ names.length
  n8 : names.length ≤ 8
  nd : names.Nodup
  nok : ∀ z ∈ names, NameOk z
  wid : ∀ r ∈ rows, r.length = names.length
  r200 : rows.length ≤ 200
def tabD (names : List Str) (rows : List (List (Option Int))) : D := .tuple [.tuple (names.map .str), .list (rows.map dR)]
theorem cell_at_ok (ns : List Int) (k : Nat) : Okx (g_law_cell_at [.list (ns.map .int), .int k]) (fun c => ∃ i : Int, c = .fz (.int i)) noX := by
  refine okx_run ?_
  simp [b_law_cell_at, envF]
  by_cases h : k < ns.length
  · simp [h, dIdx_ints h]
  · simp [h]
section
variable {ns : List Int} {k most : Nat} {hs : List Int} {wide : Nat} {names : List Str}
/-- the first slots, when the rows are drawn -/
abbrev hdT (ns : List Int) (k most : Nat) (hs : List Int) (wide : Nat) (names : List Str) (m : Nat) (far : Option Cell) : List (Option Cell) :=
  [some (.fz (.list (ns.map .int))), some (.fz (.int k)), some (.fz (.int most)), some (.fz (.list (hs.map .int))), some (.fz (.int wide)), some (.fz (.tuple (names.map .str))), some (.fz (.int m)), far]
def JT (ns : List Int) (k most : Nat) (hs : List Int) (wide : Nat) (names : List Str) (e : DL.LE) : Prop := ∃ m : Nat, e = hdT ns k most hs wide names m none ++ [none, none, none, none, none, none] ∧ m ≤ 200 ∧ (most ≤ 24 → m ≤ 24)
theorem table_4 {m0 : Nat} {p : Pst} (hl : hs.length = 24) (hm : m0 ≤ 200 ∧ (most ≤ 24 → m0 ≤ 24)) (hp : ∀ e, JT ns k most hs wide names e → p.nx e) : Pq (b_law_table_4 (hdT ns k most hs wide names m0 none ++ [none, none, none, none, none, none])) p := by
  have g20d := mod_in (n := gi hs 20) (m := 51) (by omega)
  obtain ⟨m1, hm1⟩ := Int.eq_ofNat_of_zero_le (show 0 ≤ 150 + gi hs 20 % 51 by omega)
  simp [b_law_table_4, dIdx_intsL, hl]
  try refine ⟨by decide, ?_⟩
  split
  · try refine ⟨by decide, ?_⟩
    split
    · rw [hm1]
      exact hp _ ⟨m1, rfl, by omega, by omega⟩
    · exact hp _ ⟨m0, rfl, hm⟩
  · exact hp _ ⟨m0, rfl, hm⟩
def JT5 (ns : List Int) (k most : Nat) (hs : List Int) (wide : Nat) (names : List Str) (m : Nat) (e : DL.LE) : Prop := ∃ far : Int, e = hdT ns k most hs wide names m (some (.fz (.int far))) ++ [none, none, none, none, none, none] ∧ 0 < far ∧ far ≤ big
theorem table_5 {m : Nat} {p : Pst} (hl : hs.length = 24) (hp : ∀ e, JT5 ns k most hs wide names m e → p.nx e) : Pq (b_law_table_5 (hdT ns k most hs wide names m none ++ [none, none, none, none, none, none])) p := by
  have g := mod_in (n := gi hs 23) (m := 4) (by omega)
  obtain ⟨d, hd, ed⟩ := dIdx_mem (ds := [PyData.int 2, .int 9, .int big, .int 3]) g.1 g.2
  obtain ⟨far, rfl, hf⟩ : ∃ far : Int, d = .int far ∧ 0 < far ∧ far ≤ big := by
    simp at hd
    rcases hd with rfl | rfl | rfl | rfl
    · exact ⟨2, rfl, by decide, by decide⟩
    · exact ⟨9, rfl, by decide, by decide⟩
    · exact ⟨_, rfl, by decide, by decide⟩
    · exact ⟨3, rfl, by decide, by decide⟩
  simp [b_law_table_5, dIdx_intsL, hl, ed]
  exact hp _ ⟨far, rfl, hf⟩
def JT7 (ns : List Int) (k most : Nat) (hs : List Int) (wide : Nat) (names : List Str) (m : Nat) (far : Int) (e : DL.LE) : Prop := ∃ picks : List Int, e = hdT ns k most hs wide names m (some (.fz (.int far))) ++ [some (.ow []), some (.ow (picks.map .int)), none, none, none, none] ∧ picks.length = m * wide ∧ ∀ n ∈ picks, 0 ≤ n ∧ n < 1000000000
theorem table_7 {m : Nat} {far : Int} {p : Pst} (hm : m ≤ 200) (hw : wide ≤ 8) (hp : ∀ e, JT7 ns k most hs wide names m far e → p.nx e) (hx : p.ex = noX) : Pq (b_law_table_7 (hdT ns k most hs wide names m (some (.fz (.int far))) ++ [some (.ow []), none, none, none, none, none])) p := by
  simp [b_law_table_7, hx]
  refine (cell_at_ok ns (k + 1)).imp (fun c hc => ?_) (fun _ h => h)
  obtain ⟨cell, rfl⟩ := hc
  have hmw : m * wide ≤ 200 * 8 := Nat.mul_le_mul hm hw
  have := law_a_draws_ok cell (m * wide) 1000000000 (by decide) (by decide) (by omega)
  have hmul : mulOk (m : Int) (wide : Int) = true := mulOk_l (by omega) (by omega)
  simp [hmul]
  rw [← Int.natCast_mul]
  refine this.imp (fun c hc => ?_) (fun _ h => h)
  obtain ⟨picks, rfl, h1, h2⟩ := hc
  exact hp _ ⟨picks, rfl, h1, h2⟩
def IRow (ns : List Int) (k most : Nat) (hs : List Int) (wide : Nat) (names : List Str) (m : Nat) (far : Int) (rows : List (List (Option Int))) (picks : List Int) (j : Nat) (i : Nat) (e : DL.LE) : Prop := ∃ (row : List (Option Int)) (k12 k13 : Option Cell),
  e = hdT ns k most hs wide names m (some (.fz (.int far))) ++ [some (.ow (rows.map dR)), some (.ow (picks.map .int)), some (.fz (.int j)), some (.ow (row.map dW)), k12, k13] ∧ row.length = i ∧ ∀ w ∈ row, WOk w
theorem table_9 {m : Nat} {far : Int} {rows : List (List (Option Int))} {picks : List Int} {j i : Nat} {row : List (Option Int)} {n : Int} {k13 : Option Cell} {p : Pst} (hf : 0 < far ∧ far ≤ big) (hn : 0 ≤ n ∧ n < 1000000000) (hrow : row.length = i) (hi : i ≤ 1000) (hw : ∀ w ∈ row, WOk w)
    (hp : ∀ e, IRow ns k most hs wide names m far rows picks j (i + 1) e → p.nx e) :
    Pq (b_law_table_9 (hdT ns k most hs wide names m (some (.fz (.int far))) ++ [some (.ow (rows.map dR)), some (.ow (picks.map .int)), some (.fz (.int j)), some (.ow (row.map dW)), some (.fz (.int n)), k13])) p := by
  have m1 : mulOk 2 far = true := mulOk_l (by omega) (by omega)
  have m2 : mulOk n 10000000000000000000001 = true := mulOk_l (by omega) (by omega)
  have g1 := mod_in (n := n / 8) (m := 2 * far + 1) (by omega)
  have g2 := mod_in (n := n * 10000000000000000000001) (m := 2 * far + 1) (by omega)
  have fin : ∀ wv : Int, -big ≤ wv ∧ wv ≤ big → Wp (lift (dIdx (.list [PyData.none, .int wv]) (.int (if 0 < n % 8 then 1 else 0))) (hdT ns k most hs wide names m (some (.fz (.int far))) ++ [some (.ow (rows.map dR)), some (.ow (picks.map .int)), some (.fz (.int j)), some (.ow (row.map dW)), some (.fz (.int n)), some (.fz (.int wv))]))
      (fun a e' => Wp (dat a e') (fun d e' => opO (owO e'[11]?) fun ds => ds.length < 16777216 ∧ p.nx (e'.set 11 (some (.ow (ds ++ [d]))))) p.ex) p.ex := by
    intro wv hwv
    obtain ⟨w, ew, hww⟩ : ∃ w : Option Int, dIdx (.list [PyData.none, .int wv]) (.int (if 0 < n % 8 then 1 else 0)) = some (.fz (dW w)) ∧ WOk w := by
      split
      · exact ⟨some wv, dIdx_1, fun i h => by cases h; exact hwv⟩
      · exact ⟨none, dIdx_0, fun i h => by cases h⟩
    rw [ew]
    simp
    refine ⟨by omega, hp _ ⟨row ++ [w], some (.fz (.int n)), some (.fz (.int wv)), by simp, by simp [hrow], fun z hz => ?_⟩⟩
    rcases List.mem_append.mp hz with q | q
    · exact hw z q
    · simp at q; rw [q]; exact hww
  simp [b_law_table_9, m1, m2]
  refine ⟨by decide, by omega, ?_⟩
  split
  · exact ⟨by omega, fin _ (by omega)⟩
  · exact fin _ (by omega)
def IRows (ns : List Int) (k most : Nat) (hs : List Int) (wide : Nat) (names : List Str) (m : Nat) (far : Int) (picks : List Int) (i : Nat) (e : DL.LE) : Prop := ∃ (rows : List (List (Option Int))) (k10 k11 k12 k13 : Option Cell),
  e = hdT ns k most hs wide names m (some (.fz (.int far))) ++ [some (.ow (rows.map dR)), some (.ow (picks.map .int)), k10, k11, k12, k13] ∧ rows.length = i ∧ ∀ r ∈ rows, r.length = wide ∧ ∀ w ∈ r, WOk w
theorem table_13 {m : Nat} {far : Int} {picks : List Int} {p : Pst} (hf : 0 < far ∧ far ≤ big) (hm : m ≤ 200) (hw : wide ≤ 8) (hpl : picks.length = m * wide) (hpr : ∀ n ∈ picks, 0 ≤ n ∧ n < 1000000000)
    (hp : ∀ e, IRows ns k most hs wide names m far picks m e → p.nx e) :
    Pq (b_law_table_13 (hdT ns k most hs wide names m (some (.fz (.int far))) ++ [some (.ow []), some (.ow (picks.map .int)), none, none, none, none])) p := by
  simp only [b_law_table_13]
  refine pq_forI (IRows ns k most hs wide names m far picks) (rangeD 0 m) ?_ ?_ ?_
  · simp [wp_range1]
    exact ⟨by simp [sm62]; omega, [], none, none, none, none, rfl, rfl, fun r h => by cases h⟩
  · rintro i e ⟨rows, k10, k11, k12, k13, rfl, hrl, hrw⟩ hi
    simp at hi
    simp [b_law_table_12, b_law_table_8]
    have a1 : i * wide ≤ 200 * 8 := Nat.mul_le_mul (by omega) hw
    have a2 : (i + 1) * wide ≤ m * wide := Nat.mul_le_mul (by omega) (Nat.le_refl _)
    rw [Nat.succ_mul] at a2
    have m1 : mulOk (i : Int) (wide : Int) = true := mulOk_l (by omega) (by omega)
    have cut : cutD (picks.map PyData.int) (some ((i : Int) * wide)) (some ((i : Int) * wide + wide)) = ((picks.drop (i * wide)).take wide).map .int := by
      have e1 : (i : Int) * wide = ((i * wide : Nat) : Int) := by rw [Int.natCast_mul]
      rw [e1, show (((i * wide : Nat) : Int) + wide) = ((i * wide + wide : Nat) : Int) by omega, cutM_mid]
      congr 2
      omega
    have sl : ((picks.drop (i * wide)).take wide).length = wide := by rw [List.length_take, List.length_drop]; omega
    have sr : ∀ n ∈ (picks.drop (i * wide)).take wide, 0 ≤ n ∧ n < 1000000000 := fun n hn => hpr n (List.mem_of_mem_drop (List.mem_of_mem_take hn))
    simp only [b_law_table_10]
    generalize (picks.drop (i * wide)).take wide = sub at cut sl sr
    refine pq_forI (IRow ns k most hs wide names m far rows picks i) (sub.map .int) ?_ ?_ ?_
    · simp [m1, cut]
      exact ⟨[], _, _, rfl, rfl, fun w h => by cases h⟩
    · rintro j e ⟨row, k12, k13, rfl, hl, hw'⟩ hj
      simp at hj
      simp only [List.getElem_map]
      exact ⟨_, rfl, table_9 hf (sr _ (List.getElem_mem hj)) hl (by omega) hw' fun e he => he⟩
    · rintro e ⟨row, k12, k13, rfl, hl, hw'⟩
      simp at hl
      simp [b_law_table_11]
      refine ⟨by omega, rows ++ [row], some (.fz (.int i)), some (.ow (row.map dW)), k12, k13, by simp [dR], by simp [hrl], fun r hr => ?_⟩
      rcases List.mem_append.mp hr with q | q
      · exact hrw r q
      · simp at q; rw [q]; exact ⟨by omega, hw'⟩
  · intro e he
    simp at he
    exact hp e he
end
theorem law_table_wb {ns : List Int} {k most : Nat} (hm : most ≤ 200) :
    Okx (g_law_table [.list (ns.map .int), .int k, .int most]) (fun c => ∃ names rows, c = .fz (tabD names rows) ∧ Tab names rows ∧ (most ≤ 24 → rows.length ≤ 24) ∧ rows.length ≤ 200 ∧ ∀ r ∈ rows, ∀ w ∈ r, WOk w) noX := by
  refine okx_run ?_
  simp [b_law_table, envF, b_law_table_0]
  refine (cell_at_ok ns k).imp (fun c hc => ?_) (fun _ h => h)
  obtain ⟨cell, rfl⟩ := hc
  simp
  refine (law_a_draws_ok cell 24 1000 (by decide) (by decide) (by decide)).imp (fun c hc => ?_) (fun _ h => h)
  obtain ⟨hs, rfl, hl, hr⟩ := hc
  have g21 := mod_in (n := gi hs 21) (m := 8) (by omega)
  have g214 := mod_in (n := gi hs 21) (m := 4) (by omega)
  have g22 := mod_in (n := gi hs 22) (m := 2) (by omega)
  obtain ⟨d, hd, ed⟩ := dIdx_mem (ds := [PyData.int (1 + gi hs 21 % 8), .int (1 + gi hs 21 % 4)]) g22.1 g22.2
  obtain ⟨wide, rfl, hw⟩ : ∃ wide : Nat, d = .int wide ∧ 1 ≤ wide ∧ wide ≤ 8 := by
    simp at hd
    rcases hd with rfl | rfl
    · exact ⟨(1 + gi hs 21 % 8).toNat, by congr 1; omega, by omega, by omega⟩
    · exact ⟨(1 + gi hs 21 % 4).toNat, by congr 1; omega, by omega, by omega⟩
  simp [b_law_table_1, b_law_table_2, dIdx_intsL, hl, ed]
  refine (law_a_names_ok hl hr hw.2).imp (fun c hc => ?_) (fun _ h => h)
  obtain ⟨names, rfl, hnl, hnd, hno⟩ := hc
  have g20a := mod_in (n := gi hs 20) (m := 8) (by omega)
  have g20b := mod_in (n := gi hs 20) (m := 25) (by omega)
  have g20c := mod_in (n := gi hs 20) (m := (most : Int) + 1) (by omega)
  have g3 := mod_in (n := gi hs 22 / 2) (m := 3) (by omega)
  obtain ⟨d, hd, ed2⟩ := dIdx_mem (ds := [PyData.int (gi hs 20 % 8), .int (gi hs 20 % 25), .int (gi hs 20 % (most + 1))]) g3.1 g3.2
  obtain ⟨m0, rfl, hm0⟩ : ∃ m0 : Nat, d = .int m0 ∧ m0 ≤ 200 ∧ (most ≤ 24 → m0 ≤ 24) := by
    simp at hd
    rcases hd with rfl | rfl | rfl
    · exact ⟨(gi hs 20 % 8).toNat, by congr 1; omega, by omega, by omega⟩
    · exact ⟨(gi hs 20 % 25).toNat, by congr 1; omega, by omega, by omega⟩
    · exact ⟨(gi hs 20 % (most + 1)).toNat, by congr 1; omega, by omega, by omega⟩
  simp [b_law_table_3, dIdx_intsL, hl, ed2]
  try refine ⟨by decide, ?_⟩
  refine table_4 (wide := wide) (names := names) (ns := ns) (k := k) hl hm0 ?_
  rintro e ⟨m, rfl, hm1⟩
  simp only
  refine table_5 hl ?_
  rintro e ⟨far, rfl, hf⟩
  simp [b_law_table_6]
  refine table_7 (far := far) hm1.1 hw.2 ?_ rfl
  rintro e ⟨picks, rfl, hpl, hpr⟩
  simp only
  refine table_13 hf hm1.1 hw.2 hpl hpr ?_
  rintro e ⟨rows, k10, k11, k12, k13, rfl, hrl, hrw⟩
  simp [b_law_table_14]
  exact ⟨names, rows, rfl, ⟨by omega, by omega, hnd, hno, fun r h => by rw [(hrw r h).1, hnl], by omega⟩, fun h => by have := hm1.2 h; omega, by omega, fun r h => (hrw r h).2⟩
theorem law_table_ok {ns : List Int} {k most : Nat} (hm : most ≤ 200) :
    Okx (g_law_table [.list (ns.map .int), .int k, .int most]) (fun c => ∃ names rows, c = .fz (tabD names rows) ∧ Tab names rows ∧ (most ≤ 24 → rows.length ≤ 24)) noX :=
  (law_table_wb hm).imp (fun _ ⟨n, r, h1, h2, h3, _⟩ => ⟨n, r, h1, h2, h3⟩) (fun _ h => h)
end Com

set_option Elab.async false
set_option linter.all false
set_option maxRecDepth 100000
set_option maxHeartbeats 4000000
/-! reading the denotations: gathering dicts, lists of lists, sorts by keys, refusals. -/
namespace Com
open PySem PySem.Spec L2 DL
section
variable {e : DL.LE} {p : Pst} {X : Str → Prop}
@[simp] theorem gdO_gd {gs : List (D × List D)} {l : DL.LE} {i : Nat} (h : l[i]? = some (some (.gd gs))) : gdOf i l = some gs := by unfold gdOf; rw [h]
@[simp] theorem pq_group {i j : Nat} {fk : M D} : Pq (sGroup i j fk e) p = opO (gdOf i e) fun _ => Wp (fk e) (fun kd e1 => opO (gdOf i e1) fun gs => opO (fzOf j e1) fun v => opO (grpTo kd v gs) fun gs' => p.nx (e1.set i (some (.gd gs')))) p.ex := by
  unfold sGroup
  cases h : gdOf i e with
  | none => simp [pqc_no]
  | some gs0 =>
    simp only [pq_E, opO_some]
    congr 1
    funext kd e1
    cases h1 : gdOf i e1 with
    | none => simp [pqc_no]
    | some gs =>
      cases h2 : fzOf j e1 with
      | none => simp [pqc_no]
      | some v =>
        cases h3 : grpTo kd v gs with
        | none => simp [pqc_no, h3]
        | some g => simp [pqc_nx, h3]
@[simp] theorem pq_appC {i : Nat} {f : M Cell} : Pq (sAppC i f e) p = opO (atL i e) fun _ => Wp (f e) (fun c e1 => opO (atL i e1) fun cs => cs.length < 16777216 ∧ p.nx (e1.set i (some (.tl (cs ++ [c]))))) p.ex := by
  unfold sAppC
  cases h : atL i e with
  | none => simp [pqc_no]
  | some cs0 =>
    simp only [pq_E, opO_some]
    congr 1
    funext c e1
    cases h1 : atL i e1 with
    | none => simp [pqc_no]
    | some cs => by_cases h2 : cs.length < 16777216 <;> simp [h2, pqc_no, pqc_nx]
@[simp] theorem pq_appAt {i : Nat} {fk f : M D} : Pq (sAppAt i fk f e) p = opO (atL i e) fun _ => Wp (fk e) (fun kd e1 => Wp (asI kd e1) (fun n e1 => opO ((atL i e1).bind (owAt n)) fun _ => Wp (f e1) (fun d e2 => opO ((atL i e2).bind (appAt n d)) fun cs => p.nx (e2.set i (some (.tl cs)))) p.ex) p.ex) p.ex := by
  unfold sAppAt
  cases h : atL i e with
  | none => simp [pqc_no]
  | some cs0 =>
    simp only [pq_E, opO_some]
    congr 1
    funext kd e1
    cases kd with
    | int n =>
      simp only [wp_asI]
      cases h1 : (atL i e1).bind (owAt n) with
      | none => simp [pqc_no]
      | some _ =>
        simp only [pq_E, opO_some]
        congr 1
        funext d e2
        cases h2 : (atL i e2).bind (appAt n d) with
        | none => simp [pqc_no]
        | some cs => simp [pqc_nx]
    | _ => simp [asI, pqc_no]
@[simp] theorem wp_vals {i : Nat} {P : List D → DL.LE → Prop} : Wp (mVals i e) P X = opO (gdOf i e) fun gs => P (gs.map fun g => .list g.2) (e.set i none) := by
  unfold mVals
  cases h : gdOf i e with
  | none => simp
  | some gs => simp
@[simp] theorem wp_enum {f : M (List D)} {P : List D → DL.LE → Prop} : Wp (mEnum f e) P X = Wp (f e) (fun ds e' => ∃ xs, ds = [.list xs] ∧ P (enumD xs) e') X := by
  unfold mEnum
  rw [wp_bnd]
  congr 1
  funext ds e'
  match ds with
  | [.list xs] => simp
  | [] => simp
  | .none :: _ => simp
  | .bool _ :: _ => simp
  | .int _ :: _ => simp
  | .str _ :: _ => simp
  | .tuple _ :: _ => simp
  | .list _ :: _ :: _ => simp
  | .dict _ :: _ => simp
@[simp] theorem wp_revL {xs : List D} {P : List D → DL.LE → Prop} {f : M D} (h : f e = .ok (.list xs) e) : Wp (mRev f e) P X = P xs.reverse e := by simp [mRev, bnd, h]
@[simp] theorem wp_rev {f : M D} {P : List D → DL.LE → Prop} : Wp (mRev f e) P X = Wp (f e) (fun d e' => ∃ xs, (d = .list xs ∨ d = .tuple xs) ∧ P xs.reverse e') X := by
  unfold mRev
  rw [wp_bnd]
  congr 1
  funext d e'
  cases d <;> simp
@[simp] theorem pq_aug {i : Nat} {f : M D} : Pq (sAugAdd i f e) p = (∃ a, e[i]? = some (some (.fz (.int a))) ∧ Wp (f e) (fun d e1 => ∃ b, d = .int b ∧ (if i < e1.length then p.nx (e1.set i (some (.fz (.int (a + b))))) else False)) p.ex) := by
  unfold sAugAdd
  split
  · rename_i a h
    simp only [h, pq_E]
    simp only [Option.some.injEq, Cell.fz.injEq, PyData.int.injEq, exists_eq_left']
    congr 1
    funext d e1
    cases d <;> simp [pqc_no]
  · rename_i h
    simp [pqc_no]
    intro a ha
    exact absurd ha (h a)
@[simp] theorem pq_raise {x : Str} : Pq (sRaise x e) p = p.ex x := pqc_ex
@[simp] theorem pq_divmod {is : List Nat} {f : M (List D)} : Pq (sDivmod is f e) p = Wp (f e) (fun ds e1 => ∃ i j, ds = [.int i, .int j] ∧ (0 < j ∧ Builtin.divisionGoesByPylong i j = false) ∧ opO (setAll is [.int (i / j), .int (i % j)] e1) p.nx) p.ex := by
  unfold sDivmod
  rw [pq_E]
  congr 1
  funext ds e1
  match ds with
  | [.int i, .int j] =>
    apply propext
    constructor
    · intro z
      by_cases h : 0 < j ∧ Builtin.divisionGoesByPylong i j = false
      · simp only [h, and_self, if_true] at z
        refine ⟨i, j, rfl, h, ?_⟩
        cases h2 : setAll is [.int (i / j), .int (i % j)] e1 with
        | none => rw [h2] at z; simp [pqc_no] at z
        | some e2 => rw [h2] at z; simpa [pqc_nx] using z
      · simp only [if_neg h, pqc_no] at z
    · rintro ⟨i', j', h0, h, z⟩
      cases h0
      simp only [h, and_self, if_true]
      cases h2 : setAll is [.int (i / j), .int (i % j)] e1 with
      | none => rw [h2] at z; exact z.elim
      | some e2 => rw [h2] at z; simpa [pqc_nx] using z
  | [] => simp [pqc_no]
  | .none :: _ => simp [pqc_no]
  | .bool _ :: _ => simp [pqc_no]
  | .str _ :: _ => simp [pqc_no]
  | .tuple _ :: _ => simp [pqc_no]
  | .list _ :: _ => simp [pqc_no]
  | .dict _ :: _ => simp [pqc_no]
  | [.int _] => simp [pqc_no]
  | .int _ :: .none :: _ => simp [pqc_no]
  | .int _ :: .bool _ :: _ => simp [pqc_no]
  | .int _ :: .str _ :: _ => simp [pqc_no]
  | .int _ :: .tuple _ :: _ => simp [pqc_no]
  | .int _ :: .list _ :: _ => simp [pqc_no]
  | .int _ :: .dict _ :: _ => simp [pqc_no]
  | .int _ :: .int _ :: _ :: _ => simp [pqc_no]
end
theorem okx_ex {r : Rf} {x : Str} (h : Okx r (fun _ => False) (fun y => y = x)) : r = .ex x := by
  cases r with
  | ok c => rw [okc_ok] at h; exact h.elim
  | ex c => rw [okc_ex] at h; rw [h]
  | no => rw [okc_no] at h; exact h.elim
theorem boolsOf_map : ∀ {bs : List Bool}, boolsOf (bs.map PyData.bool) = some bs
  | [] => rfl
  | b :: bs => by simp [boolsOf, boolsOf_map (bs := bs)]
@[simp] theorem bAll_bools {bs : List Bool} : bAll [.list (bs.map PyData.bool)] = some (.fz (.bool (bs.all id))) := by
  show (boolsOf (bs.map PyData.bool)).map _ = _
  rw [boolsOf_map]; rfl
end Com

set_option Elab.async false
set_option linter.all false
set_option maxRecDepth 100000
set_option maxHeartbeats 4000000
/-! orders of rows, in plain Lean. -/
namespace Com
/-- None counts as greater than all numbers -/
def oLt : Option Int → Option Int → Bool
  | some i, some j => decide (i < j)
  | some _, none => true
  | none, _ => false
theorem oLt_irr (a : Option Int) : oLt a a = false := by cases a <;> simp [oLt]
theorem oLt_asym {a b : Option Int} (h : oLt a b = true) : oLt b a = false := by
  cases a <;> cases b <;> simp [oLt] at h ⊢; omega
theorem oLt_trans {a b c : Option Int} (h : oLt a b = true) (k : oLt b c = true) : oLt a c = true := by
  cases a <;> cases b <;> cases c <;> simp [oLt] at h k ⊢; omega
theorem oLt_tri {a b : Option Int} (h : a ≠ b) (k : oLt a b = false) : oLt b a = true := by
  cases a <;> cases b <;> simp [oLt] at h k ⊢; omega
abbrev Rw := List (Option Int)
def ge (r : Rw) (i : Nat) : Option Int := r.getD i none
/-- a pair of an order: a place, up -/
abbrev OP := Nat × Bool
/-- a comes ahead of b -/
def ahd : List OP → Rw → Rw → Bool
  | [], _, _ => false
  | p :: r, a, b => if ge a p.1 = ge b p.1 then ahd r a b else (oLt (ge a p.1) (ge b p.1)) == p.2
def alk (os : List OP) (a b : Rw) : Prop := ∀ p ∈ os, ge a p.1 = ge b p.1
instance (os : List OP) (a b : Rw) : Decidable (alk os a b) := by unfold alk; infer_instance
theorem alk_cons {p : OP} {r : List OP} {a b : Rw} : alk (p :: r) a b ↔ ge a p.1 = ge b p.1 ∧ alk r a b := by simp [alk]
theorem alk_symm {os : List OP} {a b : Rw} (h : alk os a b) : alk os b a := fun p hp => (h p hp).symm
theorem alk_trans {os : List OP} {a b c : Rw} (h : alk os a b) (k : alk os b c) : alk os a c := fun p hp => (h p hp).trans (k p hp)
theorem alk_refl (os : List OP) (a : Rw) : alk os a a := fun _ _ => rfl
theorem ahd_alk : ∀ {os : List OP} {a b : Rw}, alk os a b → ahd os a b = false
  | [], _, _, _ => rfl
  | p :: r, a, b, h => by
    rw [alk_cons] at h
    rw [ahd, if_pos h.1, ahd_alk h.2]
theorem ahd_asym : ∀ {os : List OP} {a b : Rw}, ahd os a b = true → ahd os b a = false
  | [], _, _, h => by cases h
  | p :: r, a, b, h => by
    rw [ahd] at h ⊢
    by_cases e : ge a p.1 = ge b p.1
    · rw [if_pos e] at h; rw [if_pos e.symm]; exact ahd_asym h
    · rw [if_neg e] at h
      rw [if_neg (Ne.symm e)]
      cases q : oLt (ge a p.1) (ge b p.1) with
      | true => rw [q] at h; rw [oLt_asym q]; cases hp : p.2 <;> simp_all
      | false => rw [q] at h; rw [oLt_tri e q]; cases hp : p.2 <;> simp_all
theorem ahd_tri : ∀ {os : List OP} {a b : Rw}, ¬ alk os a b → ahd os a b = false → ahd os b a = true
  | [], _, _, h, _ => absurd (fun _ z => by cases z) h
  | p :: r, a, b, h, k => by
    rw [ahd] at k ⊢
    rw [alk_cons] at h
    by_cases e : ge a p.1 = ge b p.1
    · rw [if_pos e] at k; rw [if_pos e.symm]; exact ahd_tri (fun z => h ⟨e, z⟩) k
    · rw [if_neg e] at k
      rw [if_neg (Ne.symm e)]
      cases q : oLt (ge a p.1) (ge b p.1) with
      | true => rw [q] at k; rw [oLt_asym q]; cases hp : p.2 <;> simp_all
      | false => rw [q] at k; rw [oLt_tri e q]; cases hp : p.2 <;> simp_all
theorem ahd_trans : ∀ {os : List OP} {a b c : Rw}, ahd os a b = true → ahd os b c = true → ahd os a c = true
  | [], _, _, _, h, _ => by cases h
  | p :: r, a, b, c, h, k => by
    rw [ahd] at h k ⊢
    by_cases e : ge a p.1 = ge b p.1
    · rw [if_pos e] at h
      by_cases e2 : ge b p.1 = ge c p.1
      · rw [if_pos e2] at k
        rw [if_pos (e.trans e2)]
        exact ahd_trans h k
      · rw [if_neg e2] at k
        rw [if_neg (fun z => e2 (e ▸ z)), e]
        exact k
    · rw [if_neg e] at h
      by_cases e2 : ge b p.1 = ge c p.1
      · rw [if_neg (fun z => e (z.trans e2.symm)), ← e2]
        exact h
      · rw [if_neg e2] at k
        have e3 : ge a p.1 ≠ ge c p.1 := by
          intro z
          cases q : oLt (ge a p.1) (ge b p.1) with
          | true => rw [q] at h; rw [← z, oLt_asym q] at k; cases hp : p.2 <;> simp_all
          | false => rw [q] at h; rw [← z, oLt_tri e q] at k; cases hp : p.2 <;> simp_all
        rw [if_neg e3]
        cases hp : p.2 with
        | true =>
          rw [hp] at h k
          rw [oLt_trans (by simpa using h) (by simpa using k)]; rfl
        | false =>
          rw [hp] at h k
          have h' : oLt (ge a p.1) (ge b p.1) = false := by simpa using h
          have k' : oLt (ge b p.1) (ge c p.1) = false := by simpa using k
          rw [oLt_asym (oLt_trans (oLt_tri e2 k') (oLt_tri e h'))]; rfl
theorem ahd_alk_l : ∀ {os : List OP} {a b c : Rw}, alk os a b → ahd os a c = ahd os b c
  | [], _, _, _, _ => rfl
  | p :: r, a, b, c, h => by
    rw [alk_cons] at h
    rw [ahd, ahd, h.1, ahd_alk_l h.2]
theorem ahd_alk_r : ∀ {os : List OP} {a b c : Rw}, alk os b c → ahd os a b = ahd os a c
  | [], _, _, _, _ => rfl
  | p :: r, a, b, c, h => by
    rw [alk_cons] at h
    rw [ahd, ahd, h.1, ahd_alk_r h.2]
section
variable (v : Nat → Rw)
/-- the row a stands ahead of the row b in the part's order -/
def Lx (os : List OP) (a b : Nat) : Prop := ahd os (v a) (v b) = true ∨ (alk os (v a) (v b) ∧ a < b)
variable {v}
theorem Lx.asym {os : List OP} {a b : Nat} (h : Lx v os a b) (k : Lx v os b a) : False := by
  rcases h with h | ⟨h, h2⟩ <;> rcases k with k | ⟨k, k2⟩
  · rw [ahd_asym h] at k; cases k
  · rw [ahd_alk (alk_symm k)] at h; cases h
  · rw [ahd_alk (alk_symm h)] at k; cases k
  · omega
theorem Lx.trans {os : List OP} {a b c : Nat} (h : Lx v os a b) (k : Lx v os b c) : Lx v os a c := by
  rcases h with h | ⟨h, h2⟩ <;> rcases k with k | ⟨k, k2⟩
  · exact .inl (ahd_trans h k)
  · exact .inl (by rw [← ahd_alk_r k]; exact h)
  · exact .inl (by rw [ahd_alk_l h]; exact k)
  · exact .inr ⟨alk_trans h k, by omega⟩
theorem Lx.not {os : List OP} {a b : Nat} (h : ahd os (v b) (v a) = false) (hl : a < b) : Lx v os a b := by
  by_cases e : alk os (v a) (v b)
  · exact .inr ⟨e, hl⟩
  · by_cases q : ahd os (v a) (v b) = true
    · exact .inl q
    · rw [ahd_tri e (by simpa using q)] at h; cases h
theorem Lx.ahd_iff {os : List OP} {a b : Nat} (h : Lx v os a b) : ahd os (v a) (v b) = !decide (alk os (v a) (v b)) := by
  rcases h with h | ⟨h, _⟩
  · have : ¬ alk os (v a) (v b) := fun z => by rw [ahd_alk z] at h; cases h
    rw [h]; simp [this]
  · rw [ahd_alk h]; simp [h]
theorem Lx.uniq {os : List OP} {xs ys : List Nat} (p : xs.Perm ys) (h : xs.Pairwise (Lx v os)) (k : ys.Pairwise (Lx v os)) : xs = ys :=
  p.eq_of_pairwise (fun a b _ _ h1 h2 => (h1.asym h2).elim) h k
/-- less or alike by a pair -/
def leO (p : OP) (a b : Option Int) : Bool := if p.2 then !oLt b a else !oLt a b
theorem leO_trans (p : OP) (a b c : Option Int) (h : leO p a b = true) (k : leO p b c = true) : leO p a c = true := by
  unfold leO at *
  cases hp : p.2 <;> rw [hp] at h k <;> cases a <;> cases b <;> cases c <;> simp [oLt] at h k ⊢ <;> omega
theorem leO_total (p : OP) (a b : Option Int) : (leO p a b || leO p b a) = true := by
  unfold leO
  cases hp : p.2 <;> cases a <;> cases b <;> simp [oLt] <;> omega
def ordT (v : Nat → Rw) (os : List OP) (part : List Nat) : List Nat := os.foldr (fun p line => line.mergeSort fun a b => leO p (ge (v a) p.1) (ge (v b) p.1)) part
theorem pair_sub : ∀ {l : List Nat} {a b : Nat}, a ∈ l → b ∈ l → a ≠ b → [a, b].Sublist l ∨ [b, a].Sublist l
  | [], a, b, h, _, _ => by cases h
  | x :: l, a, b, h, k, n => by
    rcases List.mem_cons.mp h with e1 | h'
    · rcases List.mem_cons.mp k with e2 | k'
      · exact absurd (e1.trans e2.symm) n
      · rw [e1]; exact .inl (List.Sublist.cons_cons _ (List.singleton_sublist.mpr k'))
    · rcases List.mem_cons.mp k with e2 | k'
      · rw [e2]; exact .inr (List.Sublist.cons_cons _ (List.singleton_sublist.mpr h'))
      · rcases pair_sub h' k' n with q | q
        · exact .inl (q.cons _)
        · exact .inr (q.cons _)
theorem no_both {l : List Nat} (nd : l.Nodup) {a b : Nat} (h : [a, b].Sublist l) (k : [b, a].Sublist l) : False := by
  induction l with
  | nil => cases h
  | cons x l ih =>
    rw [List.nodup_cons] at nd
    cases h with
    | cons _ h =>
      cases k with
      | cons _ k => exact ih nd.2 h k
      | cons_cons _ k => exact nd.1 (h.subset (by simp))
    | cons_cons _ h =>
      cases k with
      | cons _ k => exact nd.1 (k.subset (by simp))
      | cons_cons _ k => exact nd.1 (h.subset (by simp))
theorem sort_step {l : List Nat} {p : OP} {r : List OP} (nd : l.Nodup) (h : l.Pairwise (Lx v r)) : (l.mergeSort fun a b => leO p (ge (v a) p.1) (ge (v b) p.1)).Pairwise (Lx v (p :: r)) := by
  have pm := List.mergeSort_perm l fun a b => leO p (ge (v a) p.1) (ge (v b) p.1)
  have nd2 := pm.nodup_iff.mpr nd
  have so := List.pairwise_mergeSort (le := fun a b => leO p (ge (v a) p.1) (ge (v b) p.1)) (fun a b c => leO_trans p _ _ _) (fun a b => leO_total p _ _) l
  rw [List.pairwise_iff_forall_sublist] at so h ⊢
  intro a b hab
  have le := so hab
  by_cases e : ge (v a) p.1 = ge (v b) p.1
  · have ne : a ≠ b := fun z => by
      subst z
      exact no_both nd2 hab hab
    have ha : a ∈ l := pm.mem_iff.mp (hab.subset (by simp))
    have hb : b ∈ l := pm.mem_iff.mp (hab.subset (by simp))
    have : Lx v r a b := by
      rcases pair_sub ha hb ne with q | q
      · exact h q
      · have q2 := List.pair_sublist_mergeSort (le := fun a b => leO p (ge (v a) p.1) (ge (v b) p.1)) (fun a b c => leO_trans p _ _ _) (fun a b => leO_total p _ _) (a := b) (b := a) (by
          show leO p (ge (v b) p.1) (ge (v a) p.1) = true
          rw [e]; unfold leO; simp [oLt_irr]) q
        exact (no_both nd2 hab q2).elim
    rcases this with q | ⟨q, q2⟩
    · exact .inl (by rw [ahd, if_pos e]; exact q)
    · exact .inr ⟨alk_cons.mpr ⟨e, q⟩, q2⟩
  · refine .inl ?_
    rw [ahd, if_neg e]
    have le : leO p (ge (v a) p.1) (ge (v b) p.1) = true := le
    unfold leO at le
    cases hp : p.2 with
    | true =>
      rw [hp] at le
      simp only [if_true, Bool.not_eq_true'] at le
      rw [oLt_tri (Ne.symm e) le]; rfl
    | false =>
      rw [hp] at le
      simp only [Bool.false_eq_true, if_false, Bool.not_eq_true'] at le
      rw [le]; rfl
theorem ordT_perm {os : List OP} {part : List Nat} : (ordT v os part).Perm part := by
  induction os with
  | nil => exact .refl _
  | cons p r ih => exact (List.mergeSort_perm _ _).trans ih
theorem ordT_sorted {os : List OP} {part : List Nat} (h : part.Pairwise (· < ·)) : (ordT v os part).Pairwise (Lx v os) := by
  induction os with
  | nil => exact h.imp fun q => .inr ⟨fun _ z => (by cases z), q⟩
  | cons p r ih =>
    refine sort_step (ordT_perm.nodup_iff.mpr ?_) ih
    exact h.imp fun q => Nat.ne_of_lt q
/-! ### put in, one by one, from behind -/
def insAt (v : Nat → Rw) (os : List OP) (x : Nat) (l : List Nat) : Nat → Nat
  | 0 => 0
  | k + 1 => if ahd os (v x) (v (l.getD k 0)) = true then insAt v os x l k else k + 1
theorem insAt_le {os : List OP} {x : Nat} {l : List Nat} : ∀ {k : Nat}, insAt v os x l k ≤ k
  | 0 => Nat.le_refl _
  | k + 1 => by
    unfold insAt
    split
    · exact Nat.le_succ_of_le insAt_le
    · exact Nat.le_refl _
def insT (v : Nat → Rw) (os : List OP) (l : List Nat) (x : Nat) : List Nat := l.take (insAt v os x l l.length) ++ [x] ++ l.drop (insAt v os x l l.length)
theorem insAt_spec {os : List OP} {x : Nat} {l : List Nat} : ∀ {k : Nat}, k ≤ l.length → (∀ j, insAt v os x l k ≤ j → j < k → ahd os (v x) (v (l.getD j 0)) = true) ∧ (∀ j, insAt v os x l k = j + 1 → ahd os (v x) (v (l.getD j 0)) = false)
  | 0, _ => ⟨fun j _ h => by omega, fun j h => by simp [insAt] at h⟩
  | k + 1, h => by
    unfold insAt
    split
    · rename_i q
      obtain ⟨h1, h2⟩ := insAt_spec (os := os) (x := x) (k := k) (l := l) (by omega)
      refine ⟨fun j a b => ?_, h2⟩
      by_cases e : j = k
      · rw [e]; exact q
      · exact h1 j a (by omega)
    · rename_i q
      refine ⟨fun j a b => by omega, fun j e => ?_⟩
      have : j = k := by omega
      rw [this]
      simpa using q
theorem insT_perm {os : List OP} {x : Nat} {l : List Nat} : (insT v os l x).Perm (l ++ [x]) := by
  unfold insT
  have : (l.take (insAt v os x l l.length) ++ [x] ++ l.drop (insAt v os x l l.length)).Perm (l.take (insAt v os x l l.length) ++ (l.drop (insAt v os x l l.length) ++ [x])) := by
    rw [List.append_assoc]
    exact List.Perm.append_left _ List.perm_append_comm
  rw [← List.append_assoc, List.take_append_drop] at this
  exact this
theorem insT_sorted {os : List OP} {x : Nat} {l : List Nat} (h : l.Pairwise (Lx v os)) (hx : ∀ a ∈ l, a < x) : (insT v os l x).Pairwise (Lx v os) := by
  obtain ⟨h1, h2⟩ := insAt_spec (v := v) (os := os) (x := x) (l := l) (Nat.le_refl l.length)
  have hk := insAt_le (v := v) (os := os) (x := x) (l := l) (k := l.length)
  unfold insT
  generalize insAt v os x l l.length = k at h1 h2 hk
  have sp : l = l.take k ++ l.drop k := (List.take_append_drop k l).symm
  have hh := h
  rw [sp, List.pairwise_append] at hh
  obtain ⟨ht, hd, hc⟩ := hh
  have before : ∀ a ∈ l.take k, Lx v os a x := by
    intro a ha
    cases k with
    | zero => simp at ha
    | succ j =>
      have jl : j < l.length := by omega
      have last := h2 j rfl
      rw [List.getD_eq_getElem?_getD, List.getElem?_eq_getElem jl] at last
      have lx : Lx v os l[j] x := Lx.not last (hx _ (List.getElem_mem jl))
      rw [List.take_succ_eq_append_getElem jl, List.mem_append] at ha
      rcases ha with ha | ha
      · rw [List.take_succ_eq_append_getElem jl, List.pairwise_append] at ht
        exact (ht.2.2 a ha _ (by simp)).trans lx
      · simp at ha; rw [ha]; exact lx
  have behind : ∀ a ∈ l.drop k, Lx v os x a := by
    intro a ha
    obtain ⟨i, hi, rfl⟩ := List.mem_iff_getElem.mp ha
    rw [List.length_drop] at hi
    have q := h1 (k + i) (by omega) (by omega)
    rw [List.getD_eq_getElem?_getD, List.getElem?_eq_getElem (by omega)] at q
    rw [List.getElem_drop]
    exact .inl q
  rw [List.append_assoc, List.pairwise_append]
  refine ⟨ht, ?_, ?_⟩
  · rw [List.singleton_append, List.pairwise_cons]
    exact ⟨behind, hd⟩
  · intro a ha b hb
    rcases List.mem_append.mp hb with q | q
    · simp at q; rw [q]; exact before a ha
    · exact hc a ha b q
theorem ins_all {os : List OP} : ∀ {part l : List Nat}, l.Pairwise (Lx v os) → part.Pairwise (· < ·) → (∀ a ∈ l, ∀ b ∈ part, a < b) → (part.foldl (insT v os) l).Pairwise (Lx v os) ∧ (part.foldl (insT v os) l).Perm (l ++ part)
  | [], l, h, _, _ => ⟨h, by simp⟩
  | x :: part, l, h, hp, hx => by
    rw [List.pairwise_cons] at hp
    obtain ⟨a1, a2⟩ := ins_all (os := os) (part := part) (l := insT v os l x) (insT_sorted h fun a ha => hx a ha x (by simp)) hp.2 fun a ha b hb => by
      have := insT_perm.mem_iff.mp ha
      rcases List.mem_append.mp this with q | q
      · exact hx a q b (by simp [hb])
      · simp at q; rw [q]; exact hp.1 b hb
    refine ⟨a1, a2.trans ?_⟩
    rw [show l ++ x :: part = (l ++ [x]) ++ part by simp]
    exact insT_perm.append_right _
theorem ins_ord {os : List OP} {part : List Nat} (h : part.Pairwise (· < ·)) : part.foldl (insT v os) [] = ordT v os part := by
  obtain ⟨a, b⟩ := ins_all (v := v) (os := os) (l := []) .nil h (by simp)
  exact Lx.uniq (b.trans ordT_perm.symm) a (ordT_sorted h)
end
end Com

set_option Elab.async false
set_option linter.all false
set_option maxRecDepth 100000
set_option maxHeartbeats 4000000
/-! tables: column, need_names, worth, rank_of, are_alike. -/
namespace Com
open PySem PySem.Spec L2 DL
@[simp] theorem okS {c : Cell} {P : Cell → Prop} {X : Str → Prop} : Okx (.ok c) P X = P c := okc_ok
@[simp] theorem okSx {c : Str} {P : Cell → Prop} {X : Str → Prop} : Okx (.ex c) P X = X c := okc_ex
theorem nm_sok {z : Str} (h : NameOk z) : Sok z := by
  unfold Sok
  show z.cps.all (fun c => decide (c < 0x110000)) = true
  rw [Array.all_eq_true_iff_forall_mem]
  intro c hc
  have := h.low c (by simpa using hc)
  unfold Low at this
  simp; omega
theorem idxS_of {z : Str} : ∀ {names : List Str}, z ∈ names → idxS z names = some (names.idxOf z)
  | [], h => by cases h
  | y :: r, h => by
    unfold idxS
    by_cases e : y = z
    · rw [if_pos e, e, List.idxOf_cons_self]
    · rw [if_neg e, idxS_of (List.mem_of_ne_of_mem (Ne.symm e) h), List.idxOf_cons]
      have : (y == z) = false := by simpa using e
      rw [this]; rfl
theorem tIndex_names {names : List Str} {z : Str} (h : z ∈ names) : tIndex (names.map .str) (.str z) = some (.fz (.int (names.idxOf z : Nat))) := by
  show (match strsOf (names.map PyData.str) with
    | some ys => (idxS z ys).map fun (j : Nat) => Cell.fz (.int (j : Int))
    | none => none) = _
  rw [strsOf_map]
  simp only [idxS_of h]; rfl
def vr (rows : List Rw) (r : Nat) : Rw := rows.getD r []
def ixs (names : List Str) (zs : List Str) : List Nat := zs.map names.idxOf
def osT (names : List Str) (order : List (Str × Str)) : List OP := order.map fun p => (names.idxOf p.1, decide (p.2 = ("up" : Str)))
@[simp] theorem dIdx_tab0 {names : List Str} {rows : List Rw} : dIdx (tabD names rows) (.int 0) = some (.fz (.tuple (names.map .str))) := rfl
@[simp] theorem dIdx_tab1 {names : List Str} {rows : List Rw} : dIdx (tabD names rows) (.int 1) = some (.fz (.list (rows.map dR))) := rfl
theorem dIdx_row {rows : List Rw} {r : Nat} (h : r < rows.length) : dIdx (.list (rows.map dR)) (.int r) = some (.fz (dR (vr rows r))) := by
  rw [dIdx_list_nat h]
  unfold vr
  rw [List.getD_eq_getElem?_getD, List.getElem?_eq_getElem h]; rfl
theorem dIdx_wth {row : Rw} {i : Nat} (h : i < row.length) : dIdx (dR row) (.int i) = some (.fz (dW (ge row i))) := by
  unfold dR
  rw [dIdx_tup_nat h]
  unfold ge
  rw [List.getD_eq_getElem?_getD, List.getElem?_eq_getElem h]; rfl
theorem nice_dW {w : Option Int} {k : Nat} : Nice k (dW w) := by cases w <;> first | exact Nice.none | exact Nice.int
theorem dW_inj {a b : Option Int} : dW a = dW b ↔ a = b := by cases a <;> cases b <;> simp [dW]
section
variable {names : List Str} {rows : List Rw} {z : Str}
theorem Tab.sok (T : Tab names rows) : ∀ z ∈ names, Sok z := fun z h => nm_sok (T.nok z h)
theorem Tab.notIn (T : Tab names rows) (hs : Sok z) : dNotInC (.str z) (.tuple (names.map .str)) = some (.fz (.bool (!decide (z ∈ names)))) := by
  rw [dNotInC_tuple (nice_str hs) (nice_strs T.sok) rfl flat_strs]
  simp
theorem column_in (T : Tab names rows) (hz : z ∈ names) : g_column [tabD names rows, .str z] = .ok (.fz (.int (names.idxOf z : Nat))) := by
  refine Okx.eq (okx_run ?_)
  simp [b_column, envF, T.notIn (T.sok z hz), hz, tIndex_names hz]
theorem column_out (T : Tab names rows) (hs : Sok z) (hz : z ∉ names) : g_column [tabD names rows, .str z] = .ex "NoName" := by
  refine okx_ex (okx_run ?_)
  simp [b_column, envF, T.notIn hs, hz]
theorem need_names_ok (T : Tab names rows) {zs : List Str} {d : D} (hd : itemsD d = some (zs.map .str)) (hs : ∀ z ∈ zs, Sok z) :
    Okx (g_need_names [tabD names rows, d]) (fun c => (∀ z ∈ zs, z ∈ names) ∧ c = .fz .none) (fun x => x = "NoName" ∧ ∃ z ∈ zs, z ∉ names) := by
  refine okx_run ?_
  simp only [b_need_names, envF]
  refine pq_forI (fun i e => (∃ k : Option Cell, e = [some (.fz (tabD names rows)), some (.fz d), k]) ∧ ∀ z ∈ zs.take i, z ∈ names) (zs.map .str) ?_ ?_ ?_
  · simp [hd]
  · rintro i e ⟨⟨k, rfl⟩, hi⟩ hl
    simp at hl
    simp
    by_cases hz : zs[i] ∈ names
    · rw [column_in T hz]
      simp
      intro z hzz
      rw [List.take_succ_eq_append_getElem hl, List.mem_append] at hzz
      rcases hzz with q | q
      · exact hi z q
      · simp at q; rw [q]; exact hz
    · rw [column_out T (hs _ (List.getElem_mem hl)) hz]
      simp
      exact ⟨zs[i], List.getElem_mem hl, hz⟩
  · rintro e ⟨⟨k, rfl⟩, hi⟩
    simp at hi
    simp
    exact hi
theorem need_names_in (T : Tab names rows) {zs : List Str} {d : D} (hd : itemsD d = some (zs.map .str)) (h : ∀ z ∈ zs, z ∈ names) : g_need_names [tabD names rows, d] = .ok (.fz .none) := by
  refine Okx.eq ((need_names_ok T hd fun z hz => T.sok z (h z hz)).imp (fun c hc => hc.2) fun x hx => ?_)
  obtain ⟨z, hz, hn⟩ := hx.2
  exact absurd (h z hz) hn
theorem need_names_out (T : Tab names rows) {zs : List Str} {d : D} (hd : itemsD d = some (zs.map .str)) (hs : ∀ z ∈ zs, Sok z) (h : ∃ z ∈ zs, z ∉ names) : g_need_names [tabD names rows, d] = .ex "NoName" := by
  refine okx_ex ((need_names_ok T hd hs).imp (fun c hc => ?_) fun x hx => hx.1)
  obtain ⟨z, hz, hn⟩ := h
  exact hn (hc.1 z hz)
theorem Tab.wide (T : Tab names rows) {r : Nat} (hr : r < rows.length) : (vr rows r).length = names.length := by
  unfold vr
  rw [List.getD_eq_getElem?_getD, List.getElem?_eq_getElem hr]
  exact T.wid _ (List.getElem_mem hr)
theorem worth_in (T : Tab names rows) {r : Nat} (hr : r < rows.length) (hz : z ∈ names) : g_worth [tabD names rows, .int r, .str z] = .ok (.fz (dW (ge (vr rows r) (names.idxOf z)))) := by
  refine Okx.eq (okx_run ?_)
  have : names.idxOf z < (vr rows r).length := by rw [T.wide hr]; exact List.idxOf_lt_length_iff.mpr hz
  simp [b_worth, envF, dIdx_row hr, column_in T hz, dIdx_wth this]
def rkD : Option Int → D
  | none => .tuple [.int 1, .int 0]
  | some i => .tuple [.int 0, .int i]
theorem rank_of_ok {w : Option Int} : g_rank_of [dW w] = .ok (.fz (rkD w)) := by
  refine Okx.eq (okx_run ?_)
  cases w <;> simp [b_rank_of, envF, dW, rkD]
theorem are_alike_ok (T : Tab names rows) {order : List (Str × Str)} (ho : ∀ p ∈ order, p.1 ∈ names) (hol : order.length ≤ 16777216) {a b : Nat} (ha : a < rows.length) (hb : b < rows.length) :
    g_are_alike [tabD names rows, .tuple (order.map dP), .int a, .int b] = .ok (.fz (.bool (decide (alk (osT names order) (vr rows a) (vr rows b))))) := by
  refine Okx.eq (okx_run ?_)
  simp only [b_are_alike, pq_ret, wp_opL, wp_mCons, wp_bnd, wp_mNil]
  refine wp_compM dP (fun p => .bool (decide (ge (vr rows a) (names.idxOf p.1) = ge (vr rows b) (names.idxOf p.1)))) order ?_
  simp [envF, hol]
  have e : order.map (fun p => PyData.bool (decide (ge (vr rows a) (names.idxOf p.1) = ge (vr rows b) (names.idxOf p.1)))) = (order.map (fun p => decide (ge (vr rows a) (names.idxOf p.1) = ge (vr rows b) (names.idxOf p.1)))).map PyData.bool := by simp
  rw [e, bAll_bools]
  refine ⟨?_, ?_⟩
  · simp
    rw [Bool.eq_iff_iff, List.all_eq_true]
    constructor
    · intro h
      refine decide_eq_true fun q hq => ?_
      obtain ⟨p', hp, rfl⟩ := List.mem_map.mp hq
      exact of_decide_eq_true (h p' hp)
    · intro h q hq
      exact decide_eq_true (of_decide_eq_true h _ (List.mem_map.mpr ⟨q, hq, rfl⟩))
  · intro x y hxy
    have hx := ho _ hxy
    simp [dP, worth_in T ha hx, worth_in T hb hx, dEq_nice nice_dW nice_dW, dW_inj]
end
end Com

set_option Elab.async false
set_option linter.all false
set_option maxRecDepth 100000
set_option maxHeartbeats 4000000
/-! tables: parts_of, ordered. -/
namespace Com
open PySem PySem.Spec L2 DL
abbrev Gs := List (Rw × List Nat)
def nD (r : Nat) : D := .int (r : Int)
def lsD (p : List Nat) : D := .list (p.map nD)
def addP (k : Rw) (r : Nat) : Gs → Gs
  | [] => [(k, [r])]
  | (d, vs) :: g => if d = k then (d, vs ++ [r]) :: g else (d, vs) :: addP k r g
def gsD (gs : Gs) : List (D × List D) := gs.map fun g => (.tuple (g.1.map dW), g.2.map nD)
def kW : Option Int → NestedKey
  | none => .none
  | some i => .num i
theorem kW_inj {a b : Option Int} (h : kW a = kW b) : a = b := by cases a <;> cases b <;> simp [kW] at h ⊢; exact h
theorem kWs_inj : ∀ {a b : Rw}, a.map kW = b.map kW → a = b
  | [], [], _ => rfl
  | [], _ :: _, h => by simp at h
  | _ :: _, [], h => by simp at h
  | x :: a, y :: b, h => by
    simp only [List.map_cons, List.cons.injEq] at h
    rw [kW_inj h.1, kWs_inj h.2]
theorem nkeys_row : ∀ (k : Rw), nkeys (k.map dW) = some (k.map kW)
  | [] => rfl
  | w :: k => by
    have h1 : nkey (dW w) = some (kW w) := by cases w <;> rfl
    simp only [List.map_cons, nkeys, h1, nkeys_row k]
theorem nkey_row (k : Rw) : nkey (.tuple (k.map dW)) = some (.tup (k.map kW)) := by rw [nkey, nkeys_row]; rfl
theorem tup_inj {a b : Rw} (h : (NestedKey.tup (a.map kW)) = .tup (b.map kW)) : a = b := by
  injection h with h
  exact kWs_inj h
theorem addG_row {k : Rw} {r : Nat} : ∀ {gs : Gs}, addG (.tup (k.map kW)) (.tuple (k.map dW)) (nD r) (gsD gs) = gsD (addP k r gs)
  | [] => rfl
  | (d, vs) :: g => by
    have ih := addG_row (k := k) (r := r) (gs := g)
    unfold gsD at ih ⊢
    simp only [List.map_cons, addG, nkey_row, addP]
    by_cases e : d = k
    · subst e; simp
    · have : ¬ (some (NestedKey.tup (d.map kW)) = some (.tup (k.map kW))) := fun z => e (tup_inj (Option.some.inj z))
      rw [if_neg this, if_neg e, ih]; rfl
theorem depth_row (k : Rw) : (NestedKey.tup (k.map kW)).depth ≤ 8 := by
  have : ∀ k : Rw, NestedKey.depthAll (k.map kW) ≤ 1 := by
    intro k
    induction k with
    | nil => simp [NestedKey.depthAll]
    | cons w k ih => cases w <;> simp [NestedKey.depthAll, kW, NestedKey.depth] <;> omega
  have := this k
  simp [NestedKey.depth]; omega
theorem addP_len {k : Rw} {r : Nat} : ∀ {gs : Gs}, (addP k r gs).length ≤ gs.length + 1
  | [] => by simp [addP]
  | (d, vs) :: g => by
    unfold addP
    split
    · simp
    · have := addP_len (k := k) (r := r) (gs := g); simp; omega
theorem addP_mem {k : Rw} {r : Nat} : ∀ {gs : Gs} {g : Rw × List Nat}, g ∈ addP k r gs → g ∈ gs ∨ g = (k, [r]) ∨ ∃ vs, (k, vs) ∈ gs ∧ g = (k, vs ++ [r])
  | [], g, h => by simp [addP] at h; exact .inr (.inl h)
  | (d, vs) :: gs, g, h => by
    unfold addP at h
    split at h
    · rename_i e
      rcases List.mem_cons.mp h with q | q
      · exact .inr (.inr ⟨vs, by rw [← e]; simp, by rw [q, e]⟩)
      · exact .inl (by simp [q])
    · rcases List.mem_cons.mp h with q | q
      · exact .inl (by simp [q])
      · rcases addP_mem q with q | q | ⟨vs', q, q2⟩
        · exact .inl (by simp [q])
        · exact .inr (.inl q)
        · exact .inr (.inr ⟨vs', by simp [q], q2⟩)
/-- the groups of the first n rows -/
def grp (key : Nat → Rw) : Nat → Gs
  | 0 => []
  | n + 1 => addP (key n) n (grp key n)
structure GrpOk (key : Nat → Rw) (n : Nat) (gs : Gs) : Prop where
  len : gs.length ≤ n
  each : ∀ g ∈ gs, g.2 ≠ [] ∧ g.2.Pairwise (· < ·) ∧ g.2.length ≤ n ∧ ∀ r ∈ g.2, r < n ∧ key r = g.1
  nd : (gs.map (·.1)).Nodup
theorem addP_keys {k : Rw} {r : Nat} : ∀ {gs : Gs}, (addP k r gs).map (·.1) = if k ∈ gs.map (·.1) then gs.map (·.1) else gs.map (·.1) ++ [k]
  | [] => by simp [addP]
  | (d, vs) :: g => by
    have ih := addP_keys (k := k) (r := r) (gs := g)
    unfold addP
    by_cases e : d = k
    · rw [if_pos e]; simp [e]
    · rw [if_neg e]
      simp only [List.map_cons, ih, List.mem_cons, Ne.symm e, false_or]
      split <;> simp
theorem grp_ok (key : Nat → Rw) : ∀ n, GrpOk key n (grp key n)
  | 0 => ⟨Nat.le_refl _, fun g h => (by cases h), List.nodup_nil⟩
  | n + 1 => by
    obtain ⟨h1, h2, h3⟩ := grp_ok key n
    refine ⟨Nat.le_trans addP_len (by omega), fun g hg => ?_, ?_⟩
    · rcases addP_mem hg with q | q | ⟨vs, q, e⟩
      · obtain ⟨a0, a, b, c⟩ := h2 g q
        exact ⟨a0, a, by omega, fun r hr => ⟨by have := (c r hr).1; omega, (c r hr).2⟩⟩
      · subst q
        refine ⟨by simp, by simp, by simp, ?_⟩
        intro r hr
        simp at hr
        subst hr
        exact ⟨by omega, rfl⟩
      · obtain ⟨a0, a, b, c⟩ := h2 _ q
        subst e
        refine ⟨by simp, ?_, by simp; simpa using b, ?_⟩
        · rw [List.pairwise_append]
          exact ⟨a, by simp, fun x hx y hy => by simp at hy; rw [hy]; exact (c x hx).1⟩
        · intro r hr
          rcases List.mem_append.mp hr with z | z
          · exact ⟨by have := (c r z).1; omega, (c r z).2⟩
          · simp at z; subst z; exact ⟨by omega, rfl⟩
    · show ((addP (key n) n (grp key n)).map (·.1)).Nodup
      rw [addP_keys]
      split
      · exact h3
      · rename_i hk
        exact List.nodup_append.mpr ⟨h3, by simp, fun a ha b hb e => by simp at hb; exact hk (by rw [← hb, ← e]; exact ha)⟩
theorem grpTo_row {key : Nat → Rw} {n : Nat} (hn : n ≤ 1000) : grpTo (.tuple ((key n).map dW)) (nD n) (gsD (grp key n)) = some (gsD (grp key (n + 1))) := by
  obtain ⟨h1, h2, h3⟩ := grp_ok key n
  have ok : grpOk (.tuple ((key n).map dW)) (gsD (grp key n)) = true := by
    unfold grpOk
    simp only [nkey_row, depth_row, decide_true, Bool.true_and, Bool.and_true, Bool.and_eq_true, decide_eq_true_eq, List.all_eq_true]
    refine ⟨by simp [gsD]; omega, fun g hg => ?_⟩
    unfold gsD at hg
    obtain ⟨g', hg', rfl⟩ := List.mem_map.mp hg
    have := (h2 g' hg').2.2.1
    simp; omega
  unfold grpTo
  rw [if_pos ok, nkey_row]
  simp only [Option.map_some]
  rw [addG_row]; rfl
/-- the parts -/
def partsT (key : Nat → Rw) (n : Nat) : List (List Nat) := (grp key n).map (·.2)
def keyOf (names : List Str) (rows : List Rw) (by_ : List Str) (r : Nat) : Rw := by_.map fun z => ge (vr rows r) (names.idxOf z)
section
variable {names : List Str} {rows : List Rw} {z : Str}
theorem parts_of_ok (T : Tab names rows) {bys : List Str} (hb : ∀ z ∈ bys, z ∈ names) (hbl : bys.length ≤ 1000) :
    g_parts_of [tabD names rows, .tuple (bys.map .str)] = .ok (.ow ((partsT (keyOf names rows bys) rows.length).map lsD)) := by
  have hr := T.r200
  refine Okx.eq (okx_run ?_)
  simp [b_parts_of, envF, need_names_in T (zs := bys) (d := .tuple (bys.map .str)) rfl hb]
  refine pq_forI (fun i e => ∃ k : Option Cell, e = [some (.fz (tabD names rows)), some (.fz (.tuple (bys.map .str))), some (.gd (gsD (grp (keyOf names rows bys) i))), k, none, none]) (rangeD 0 rows.length) ?_ ?_ ?_
  · simp [wp_range1]
    refine ⟨by simp [sm62]; omega, ?_⟩
    simp [grp, gsD]
  · rintro i e ⟨k, rfl⟩ hi
    simp at hi
    simp only [rangeD_get, Int.zero_add]
    simp
    refine wp_compM PyData.str (fun z => dW (ge (vr rows i) (names.idxOf z))) bys ?_
    simp
    refine ⟨by omega, ?_, ?_⟩
    · have e : bys.map (fun z => dW (ge (vr rows i) (names.idxOf z))) = (keyOf names rows bys i).map dW := by simp [keyOf]
      simp only [gdOf, fzOf, List.getElem?_cons_succ, List.getElem?_cons_zero, opO_some]
      rw [e]
      have := grpTo_row (key := keyOf names rows bys) (n := i) (by omega)
      unfold nD at this
      rw [this]
      simp
    · intro z hz
      rw [worth_in T hi (hb z hz)]
      simp
  · rintro e ⟨k, rfl⟩
    simp
    refine wp_compM (γ := Rw × List Nat) (fun g => lsD g.2) (fun g => lsD g.2) (grp (keyOf names rows bys) rows.length) ?_
    have gl := (grp_ok (keyOf names rows bys) rows.length).len
    simp [gdOf, gsD, lsD, partsT, Function.comp_def]
    omega
theorem dataLt_rk {a b : Option Int} : PySem.W.dataLt (rkD a) (rkD b) = oLt a b := by
  cases a <;> cases b <;> simp only [rkD] <;> rw [PySem.W.dataLt_ii] <;> simp [oLt]
end
end Com

set_option Elab.async false
set_option linter.all false
set_option maxRecDepth 100000
set_option maxHeartbeats 4000000
/-! tables: ordered. -/
namespace Com
open PySem PySem.Spec L2 DL
theorem wp_noX {α : Type} {r : Re α} {P : α → DL.LE → Prop} (h : Wp r P noX) : ∃ a e, r = .ok a e ∧ P a e := by
  cases r with
  | ok a e => rw [wp_ok] at h; exact ⟨a, e, rfl, h⟩
  | ex c e => rw [wp_ex] at h; exact h.elim
  | no => rw [wp_no] at h; exact h.elim
theorem keys1_map {γ : Type} {ir : Nat} {fk : M D} (f k : γ → D) (w : DL.LE) (hw : w.set ir none = w) : ∀ (xs : List γ), (∀ x ∈ xs, Wp (fk (w.set ir (some (.fz (f x))))) (fun y e3 => y = k x ∧ e3.set ir none = w) noX) →
    keys1 ir fk (xs.map f) w = .ok (xs.map k) w
  | [], _ => rfl
  | x :: xs, h => by
    obtain ⟨y, e3, h1, rfl, h3⟩ := wp_noX (h x (by simp))
    have ih := keys1_map f k w hw xs fun z hz => h z (by simp [hz])
    simp only [List.map_cons, keys1, h1, h3, ih]
theorem wp_sortKey {γ : Type} {rev : Bool} {ir : Nat} {fk src : M D} {e : DL.LE} {P : Cell → DL.LE → Prop} {X : Str → Prop} (f k : γ → D) (xs : List γ)
    (hs : Wp (src e) (fun d e' => d = .list (xs.map f) ∧ ir < e'.length ∧ sortOk (xs.map k) = true ∧ (∀ x ∈ xs, Wp (fk ((e'.set ir none).set ir (some (.fz (f x))))) (fun y e3 => y = k x ∧ e3.set ir none = e'.set ir none) noX) ∧ P (.ow (sortK rev (xs.map k) (xs.map f))) (e'.set ir none)) X) :
    Wp (mSortKey rev ir fk src e) P X := by
  unfold mSortKey
  rw [wp_bnd]
  refine hs.imp (fun d e' ⟨h1, h2, h3, h4, h5⟩ => ?_) (fun _ h => h)
  subst h1
  have h6 := keys1_map f k (e'.set ir none) (by simp) xs h4
  simp only [if_pos h2, h6, if_pos h3, wp_ok]
  exact h5
theorem sortOk_rk {α : Type} {g : α → Option Int} {l : List α} : sortOk (l.map fun r => rkD (g r)) = true := by
  have a1 : ∀ a b : Option Int, PySem.W.alike (rkD a) (rkD b) = true := fun a b => by cases a <;> cases b <;> rfl
  have a2 : ∀ a : Option Int, (rkD a).depth ≤ 60 := fun a => by cases a <;> simp [rkD, PyData.depth, PyData.depthAll]
  have a3 : ∀ a : Option Int, ∃ x xs, rkD a = .tuple (x :: xs) := fun a => by cases a <;> exact ⟨_, _, rfl⟩
  unfold sortOk
  simp only [Bool.and_eq_true, Bool.or_eq_true, List.all_eq_true, decide_eq_true_eq]
  refine ⟨⟨fun d hd d' hd' => ?_, .inl fun d hd => ?_⟩, fun d hd => ?_⟩
  · obtain ⟨r, _, rfl⟩ := List.mem_map.mp hd
    obtain ⟨r', _, rfl⟩ := List.mem_map.mp hd'
    exact a1 _ _
  · obtain ⟨r, _, rfl⟩ := List.mem_map.mp hd
    obtain ⟨x, xs, e⟩ := a3 (g r)
    rw [e]
  · obtain ⟨r, _, rfl⟩ := List.mem_map.mp hd
    exact a2 _
theorem sortK_rk {p : OP} {g : Nat → Option Int} {l : List Nat} : sortK (!p.2) (l.map fun r => rkD (g r)) (l.map nD) = (l.mergeSort fun a b => leO p (g a) (g b)).map nD := by
  have z : (l.map nD).zip (l.map fun r => rkD (g r)) = l.map fun r => (nD r, rkD (g r)) := by rw [List.zip_map']
  unfold sortK
  rw [z]
  have := List.map_mergeSort (r := fun a b => leO p (g a) (g b)) (s := PySem.W.dataLe (!p.2) (Prod.snd : D × D → D)) (f := fun r => (nD r, rkD (g r))) (l := l) (fun a _ b _ => by
    rw [PySem.W.dataLe_eq]
    simp only [dataLt_rk]
    unfold leO
    cases p.2 <;> rfl)
  rw [← this, List.map_map]; rfl
theorem sortI_up {part : List Nat} (h : part.Pairwise (· < ·)) : sortI (part.map fun r : Nat => (r : Int)) = part.map fun r : Nat => (r : Int) := by
  refine sortI_of (List.Perm.refl _) ?_
  rw [List.pairwise_map]
  exact h.imp fun q => by omega
theorem lsD_ints {part : List Nat} : part.map nD = (part.map fun r : Nat => (r : Int)).map PyData.int := by simp [nD]
section
variable {names : List Str} {rows : List Rw}
theorem ordered_out (T : Tab names rows) {order : List (Str × Str)} (hs : ∀ p ∈ order, Sok p.1) (ho : ∃ p ∈ order, p.1 ∉ names) (hol : order.length ≤ 1000) {d : D} : g_ordered [tabD names rows, d, .tuple (order.map dP)] = .ex "NoName" := by
  refine okx_ex (okx_run ?_)
  simp only [b_ordered, pq_seq, pq_drop, wp_call, wp_mCons, wp_bnd, wp_mNil]
  simp [envF]
  refine wp_compM dP (fun p => .str p.1) order ?_
  obtain ⟨p, hp, hn⟩ := ho
  have := need_names_out T (zs := order.map (·.1)) (d := .list ((order.map (·.1)).map .str)) rfl (fun z hz => by
    obtain ⟨p, hp, rfl⟩ := List.mem_map.mp hz
    exact hs p hp) ⟨p.1, List.mem_map.mpr ⟨p, hp, rfl⟩, hn⟩
  rw [List.map_map] at this
  simp [Function.comp_def] at this
  simp [this, dIdx_dP]
  omega
theorem ordered_ok (T : Tab names rows) {order : List (Str × Str)} (hs : ∀ p ∈ order, Sok p.2) (ho : ∀ p ∈ order, p.1 ∈ names) (hol : order.length ≤ 1000) {part : List Nat} (hp : part.Pairwise (· < ·)) (hr : ∀ r ∈ part, r < rows.length) :
    g_ordered [tabD names rows, .list (part.map nD), .tuple (order.map dP)] = .ok (.ow ((ordT (vr rows) (osT names order) part).map nD)) := by
  have nn := need_names_in T (zs := order.map (·.1)) (d := .list ((order.map (·.1)).map .str)) rfl (fun z hz => by
    obtain ⟨p, hp, rfl⟩ := List.mem_map.mp hz
    exact ho p hp)
  rw [List.map_map] at nn
  simp [Function.comp_def] at nn
  refine Okx.eq (okx_run ?_)
  simp only [b_ordered, pq_seq, pq_drop, wp_call, wp_mCons, wp_bnd, wp_mNil]
  simp [envF]
  refine wp_compM dP (fun p => .str p.1) order ?_
  have hb : bSorted [.list (part.map nD)] = some (.ow (part.map nD)) := by
    rw [lsD_ints, bSorted_ints, sortI_up hp]
  simp [-bSorted_list, nn, dIdx_dP, hb]
  refine ⟨by omega, ?_⟩
  refine pq_forI (fun i e => ∃ k4 k5 k6 : Option Cell, e = [some (.fz (tabD names rows)), some (.fz (.list (part.map nD))), some (.fz (.tuple (order.map dP))), some (.ow ((ordT (vr rows) (osT names (order.reverse.take i).reverse) part).map nD)), k4, k5, k6, none, none]) (order.reverse.map dP) ?_ ?_ ?_
  · simp [osT, ordT]
  · rintro i e ⟨k4, k5, k6, rfl⟩ hi
    simp at hi
    have hi' : i < order.reverse.length := by simpa using hi
    have st : (order.reverse.take (i + 1)).reverse = order.reverse[i] :: (order.reverse.take i).reverse := by
      rw [List.take_succ_eq_append_getElem hi']; simp
    have hmem : order.reverse[i] ∈ order := List.mem_reverse.mp (List.getElem_mem hi')
    rw [List.getElem_map, st]
    generalize order.reverse[i] = q at hmem
    have hq := ho q hmem
    have hq2 := hs q hmem
    generalize hl : ordT (vr rows) (osT names (order.reverse.take i).reverse) part = line
    have lp : line.Perm part := by rw [← hl]; exact ordT_perm
    have lr : ∀ r ∈ line, r < rows.length := fun r h => hr r (lp.mem_iff.mp h)
    have nx : ordT (vr rows) (osT names (q :: (order.reverse.take i).reverse)) part = line.mergeSort fun a b => leO (names.idxOf q.1, decide (q.2 = ("up" : Str))) (ge (vr rows a) (names.idxOf q.1)) (ge (vr rows b) (names.idxOf q.1)) := by
      rw [← hl]; rfl
    rw [nx]
    have eq1 := dEq_nice (a := .str q.2) (b := .str "up") ((nice_str hq2).mono (Nat.zero_le _)) ((nice_str (k := 0) (show Sok ("up" : Str) by unfold Sok; decide +kernel)).mono (Nat.zero_le _))
    simp [dP, column_in T hq, eq1]
    have ixl : ∀ r ∈ line, names.idxOf q.1 < (vr rows r).length := fun r h => by rw [T.wide (lr r h)]; exact List.idxOf_lt_length_iff.mpr hq
    have kk : ∀ r ∈ line, g_rank_of [dW (ge (vr rows r) (names.idxOf q.1))] = .ok (.fz (rkD (ge (vr rows r) (names.idxOf q.1)))) := fun r _ => rank_of_ok
    have fin := sortK_rk (p := (names.idxOf q.1, decide (q.2 = ("up" : Str)))) (g := fun r => ge (vr rows r) (names.idxOf q.1)) (l := line)
    by_cases hu : q.2 = ("up" : Str)
    · rw [if_pos hu]
      refine wp_sortKey nD (fun r => rkD (ge (vr rows r) (names.idxOf q.1))) line ?_
      simp [sortOk_rk]
      simp [hu] at fin
      rw [fin]
      refine ⟨fun r hr' => ?_, by simp [hu]⟩
      simp [nD, dIdx_row (lr r hr'), dIdx_wth (ixl r hr'), rank_of_ok]
    · rw [if_neg hu]
      refine wp_sortKey nD (fun r => rkD (ge (vr rows r) (names.idxOf q.1))) line ?_
      simp [sortOk_rk]
      simp [hu] at fin
      rw [fin]
      refine ⟨fun r hr' => ?_, by simp [hu]⟩
      simp [nD, dIdx_row (lr r hr'), dIdx_wth (ixl r hr'), rank_of_ok]
  · rintro e ⟨k4, k5, k6, rfl⟩
    simp
    rw [List.take_of_length_le (by simp)]
    simp
end
end Com

set_option Elab.async false
set_option linter.all false
set_option maxRecDepth 100000
set_option maxHeartbeats 4000000
/-! the laws' own parts and ahead. -/
namespace Com
open PySem PySem.Spec L2 DL
theorem dataAll_ow : ∀ (ps : List (List D)), Cell.dataAll (ps.map Cell.ow) = some (ps.map PyData.list)
  | [] => rfl
  | p :: ps => by simp only [List.map_cons, Cell.dataAll, Cell.data, dataAll_ow ps]
theorem data_tl (ps : List (List D)) : Cell.data (.tl (ps.map Cell.ow)) = some (.list (ps.map PyData.list)) := by rw [Cell.data, dataAll_ow]; rfl
theorem wp_dat_of {c : Cell} {d : D} {e : DL.LE} {P : D → DL.LE → Prop} {X : Str → Prop} (h : c.data = some d) (k : P d e) : Wp (dat c e) P X := by
  unfold dat
  rw [h]
  rw [wp_lift_some]
  exact k
theorem idxD_map {α : Type} [BEq α] [LawfulBEq α] {f : α → D} (inj : ∀ a b, f a = f b → a = b) {x : α} : ∀ {xs : List α}, (∀ y ∈ xs, nb (f y) = true) → nb (f x) = true → x ∈ xs → idxD (f x) (xs.map f) = some (xs.idxOf x)
  | [], _, _, h => by cases h
  | y :: ys, hn, hx, h => by
    simp only [List.map_cons, idxD]
    by_cases e : y = x
    · subst e
      rw [if_pos ((eqv_nb _ _ hx hx).mpr rfl), List.idxOf_cons_self]
    · have : ¬ PyData.eqv (f y) (f x) = true := fun z => e (inj _ _ ((eqv_nb _ _ (hn y (by simp)) hx).mp z))
      rw [if_neg this, idxD_map inj (fun y hy => hn y (by simp [hy])) hx (List.mem_of_ne_of_mem (Ne.symm e) h), List.idxOf_cons]
      have : (y == x) = false := by simpa using e
      rw [this]; rfl
theorem lIndex_map {α : Type} [BEq α] [LawfulBEq α] {f : α → D} (inj : ∀ a b, f a = f b → a = b) {x : α} {xs : List α} (hn : ∀ y ∈ xs, Nice 63 (f y)) (h : x ∈ xs) : lIndex (xs.map f) (f x) = some (.fz (.int (xs.idxOf x : Nat))) := by
  have h1 : SeqAt.shaped (.list (xs.map f)) = true := (Nice.list (k := 63) fun d hd => by
    obtain ⟨y, hy, rfl⟩ := List.mem_map.mp hd
    exact hn y hy).shaped (by omega)
  have h2 : SeqAt.shaped (f x) = true := (hn x h).shaped (by omega)
  unfold lIndex
  rw [if_pos ⟨h1, h2⟩, idxD_map inj (fun y hy => (hn y hy).2.1) (hn x h).2.1 h]
  rfl
def kD (k : Rw) : D := .list (k.map dW)
theorem dWs_inj : ∀ {a b : Rw}, a.map dW = b.map dW → a = b
  | [], [], _ => rfl
  | [], _ :: _, h => by simp at h
  | _ :: _, [], h => by simp at h
  | x :: a, y :: b, h => by
    simp only [List.map_cons, List.cons.injEq] at h
    rw [dW_inj.mp h.1, dWs_inj h.2]
theorem kD_inj (a b : Rw) (h : kD a = kD b) : a = b := by
  unfold kD at h
  injection h with h
  exact dWs_inj h
theorem nice_kD {k : Rw} {j : Nat} : Nice (j + 1) (kD k) := Nice.list fun d hd => by
  obtain ⟨w, _, rfl⟩ := List.mem_map.mp hd
  exact nice_dW
theorem addP_new {k : Rw} {r : Nat} : ∀ {gs : Gs}, k ∉ gs.map (·.1) → addP k r gs = gs ++ [(k, [r])]
  | [], _ => rfl
  | (d, vs) :: g, h => by
    simp only [List.map_cons, List.mem_cons, not_or] at h
    rw [addP, if_neg (Ne.symm h.1), addP_new h.2]; rfl
theorem addP_old {k : Rw} {r : Nat} : ∀ {gs : Gs}, k ∈ gs.map (·.1) → ∃ vs, (gs.map (·.2))[(gs.map (·.1)).idxOf k]? = some vs ∧ (addP k r gs).map (·.2) = (gs.map (·.2)).set ((gs.map (·.1)).idxOf k) (vs ++ [r])
  | [], h => by cases h
  | (d, vs) :: g, h => by
    by_cases e : d = k
    · subst e
      refine ⟨vs, ?_, ?_⟩
      · simp
      · simp [addP]
    · simp only [List.map_cons, List.mem_cons, Ne.symm e, false_or] at h
      obtain ⟨ws, h1, h2⟩ := addP_old (r := r) h
      have : (d == k) = false := by simpa using e
      refine ⟨ws, ?_, ?_⟩
      · simp only [List.map_cons, List.idxOf_cons, this]
        simpa using h1
      · simp only [List.map_cons, List.idxOf_cons, this, addP, if_neg e, h2]
        rfl
section
variable {names : List Str} {rows : List Rw} {z : Str}
def FoundC (ps : List (List Nat)) (c : Cell) : Prop := (ps = [] ∧ c = .ow []) ∨ c = .tl ((ps.map fun p => p.map nD).map Cell.ow)
theorem FoundC.data {ps : List (List Nat)} {c : Cell} (h : FoundC ps c) : c.data = some (.list (ps.map lsD)) := by
  rcases h with ⟨rfl, rfl⟩ | rfl
  · rfl
  · rw [data_tl, List.map_map]; rfl
theorem FoundC.at {ps : List (List Nat)} {c : Cell} (h : FoundC ps c) {e : DL.LE} {i : Nat} (he : e[i]? = some (some c)) : atL i e = some ((ps.map fun p => p.map nD).map Cell.ow) := by
  unfold atL
  rw [he]
  rcases h with ⟨rfl, rfl⟩ | rfl <;> rfl
def IPart (names : List Str) (rows : List Rw) (bys : List Str) (i : Nat) (e : DL.LE) : Prop := ∃ (c : Cell) (k5 k6 k7 : Option Cell), e = [some (.fz (tabD names rows)), some (.fz (.tuple (bys.map .str))), some (.ow ((bys.map fun z => names.idxOf z).map nD)), some c,
  some (.ow (((grp (keyOf names rows bys) i).map (·.1)).map kD)), k5, k6, k7, none, none] ∧ FoundC (partsT (keyOf names rows bys) i) c
theorem part_app {bys : List Str} {key : Nat → Rw} {i : Nat} {c : Cell} {xs : List Rw} {ps : List (List Nat)} {k6 : Option Cell} {c7 : Cell} {p : Pst} (h7 : c7 = .ow ((key i).map dW) ∨ c7 = .fz (.list ((key i).map dW))) (hf : FoundC ps c) (hx : key i ∈ xs) (hkeys : (grp key (i + 1)).map (·.1) = xs)
    (hps : ∃ vs, ps[xs.idxOf (key i)]? = some vs ∧ vs.length ≤ 1000 ∧ (grp key (i + 1)).map (·.2) = ps.set (xs.idxOf (key i)) (vs ++ [i]))
    (hp : ∀ e, (∃ (c : Cell) (k5 k6 k7 : Option Cell), e = [some (.fz (tabD names rows)), some (.fz (.tuple (bys.map .str))), some (.ow ((bys.map fun z => names.idxOf z).map nD)), some c,
      some (.ow (((grp key (i + 1)).map (·.1)).map kD)), k5, k6, k7, none, none] ∧ FoundC (partsT key (i + 1)) c) → p.nx e) :
    Pq (sAppAt 3 (bnd (opLi lIndex (pk 4) (pk 7)) dat) (fr 5) [some (.fz (tabD names rows)), some (.fz (.tuple (bys.map .str))), some (.ow ((bys.map fun z => names.idxOf z).map nD)), some c, some (.ow (xs.map kD)), some (.fz (.int (i : Nat))), k6, some c7, none, none]) p := by
  obtain ⟨vs, h1, h2, h3⟩ := hps
  have hlt : xs.idxOf (key i) < ps.length := (List.getElem?_eq_some_iff.mp h1).1
  have li : lIndex (xs.map kD) (.list ((key i).map dW)) = some (.fz (.int (xs.idxOf (key i) : Nat))) := lIndex_map (f := kD) kD_inj (fun y _ => nice_kD (j := 62)) hx
  have at3 : ∀ (a b d e5 e6 e7 : Option Cell), atL 3 [a, b, d, some c, e5, some (.fz (.int (i : Nat))), e6, e7, none, none] = some ((ps.map fun p => p.map nD).map Cell.ow) := fun a b d e5 e6 e7 => hf.at rfl
  have ixl : ixN (ps.length) ((xs.idxOf (key i) : Nat) : Int) = some (xs.idxOf (key i)) := ixN_nat hlt
  have gt : ((ps.map fun p => p.map nD).map Cell.ow)[xs.idxOf (key i)]? = some (.ow (vs.map nD)) := by
    rw [List.getElem?_map, List.getElem?_map, h1]; rfl
  have oa : owAt ((xs.idxOf (key i) : Nat) : Int) ((ps.map fun p => p.map nD).map Cell.ow) = some (vs.map nD) := by
    unfold owAt
    rw [List.length_map, List.length_map, ixl]
    simp only [Option.bind_some, gt]
  have ap : appAt ((xs.idxOf (key i) : Nat) : Int) (.int (i : Nat)) ((ps.map fun p => p.map nD).map Cell.ow) = some (((ps.set (xs.idxOf (key i)) (vs ++ [i])).map fun p => p.map nD).map Cell.ow) := by
    unfold appAt
    rw [List.length_map, List.length_map, ixl]
    simp only [Option.bind_some, gt, List.length_map]
    rw [if_pos (by omega)]
    simp [List.map_set, nD]
  rcases h7 with rfl | rfl <;> simp [-List.map_map, at3, li, oa, ap] <;> exact hp _ ⟨_, _, _, _, by rw [hkeys], .inr (by unfold partsT; rw [h3]; simp only [List.map_set, List.map_append]; rfl)⟩
theorem law_parts_ok (T : Tab names rows) {bys : List Str} (hb : ∀ z ∈ bys, z ∈ names) (hbl : bys.length ≤ 1000) :
    Okx (g_law_parts [tabD names rows, .tuple (bys.map .str)]) (fun c => c.data = some (.list ((partsT (keyOf names rows bys) rows.length).map lsD))) noX := by
  have hr := T.r200
  refine okx_run ?_
  simp only [b_law_parts, pq_seq, pq_set]
  simp [envF]
  refine wp_compM PyData.str (fun z => nD (names.idxOf z)) bys ?_
  simp
  refine ⟨by omega, ?_, fun z hz => by rw [tIndex_names (hb z hz)]; simp [nD]⟩
  refine pq_forI (IPart names rows bys) (enumD (rows.map dR)) ?_ ?_ ?_
  · simp
    exact ⟨.ow [], none, none, none, by simp [grp, List.map_map, Function.comp_def], .inl ⟨rfl, rfl⟩⟩
  · rintro i e ⟨c, k5, k6, k7, rfl, hf⟩ hi
    have hi' : i < rows.length := by simpa [enumD] using hi
    have ei : (enumD (rows.map dR))[i] = .tuple [.int (i : Nat), dR (vr rows i)] := by
      simp [enumD, vr, List.getElem?_eq_getElem hi']
    rw [ei]
    simp [-List.map_map, -pq_appAt]
    refine wp_compM (γ := Str) (fun z => nD (names.idxOf z)) (fun z => dW (ge (vr rows i) (names.idxOf z))) bys ?_
    have kx : ∀ z ∈ bys, names.idxOf z < (vr rows i).length := fun z hz => by rw [T.wide hi']; exact List.idxOf_lt_length_iff.mpr (hb z hz)
    have ek : bys.map (fun z => dW (ge (vr rows i) (names.idxOf z))) = (keyOf names rows bys i).map dW := by simp [keyOf]
    have G := grp_ok (keyOf names rows bys) i
    have ng : NiceAll 63 (((grp (keyOf names rows bys) i).map (·.1)).map kD) := fun d hd => by
      obtain ⟨k, _, rfl⟩ := List.mem_map.mp hd
      exact nice_kD (j := 62)
    have hin := dNotInC_list (d := kD (keyOf names rows bys i)) (ds := ((grp (keyOf names rows bys) i).map (·.1)).map kD) (nice_kD (j := 62)) ng
    have hm : kD (keyOf names rows bys i) ∈ ((grp (keyOf names rows bys) i).map (·.1)).map kD ↔ keyOf names rows bys i ∈ (grp (keyOf names rows bys) i).map (·.1) := by
      constructor
      · intro h
        obtain ⟨k, hk, e⟩ := List.mem_map.mp h
        rw [← kD_inj _ _ e]; exact hk
      · exact fun h => List.mem_map.mpr ⟨_, h, rfl⟩
    simp [-List.map_map, -pq_appAt]
    refine ⟨by simp, by omega, ?_, fun z hz => by simp [nD, dIdx_wth (kx z hz)]⟩
    rw [ek]
    have hk' : PyData.list ((keyOf names rows bys i).map dW) = kD (keyOf names rows bys i) := rfl
    simp only [hk', hin, hm]
    by_cases hold : keyOf names rows bys i ∈ (grp (keyOf names rows bys) i).map (·.1)
    · simp [-List.map_map, -pq_appAt, hold]
      obtain ⟨vs, o1, o2⟩ := addP_old (r := i) hold
      refine part_app (key := keyOf names rows bys) (.inl rfl) hf hold (by rw [show grp (keyOf names rows bys) (i + 1) = addP (keyOf names rows bys i) i (grp (keyOf names rows bys) i) from rfl, addP_keys, if_pos hold]) ⟨vs, o1, ?_, o2⟩ fun e he => he
      have hv := List.mem_of_getElem? o1
      obtain ⟨g, hg, rfl⟩ := List.mem_map.mp hv
      have := (G.each g hg).2.2.1
      omega
    · have gl := G.len
      have pl : (partsT (keyOf names rows bys) i).length ≤ i := by simp [partsT]; omega
      have kl : (((grp (keyOf names rows bys) i).map (·.1)).map kD).length ≤ i := by simp; omega
      have at3 : ∀ (a b d e5 e6 e7 e8 : Option Cell), atL 3 [a, b, d, some c, e5, e6, e7, e8, none, none] = some (((partsT (keyOf names rows bys) i).map fun p => p.map nD).map Cell.ow) := fun a b d e5 e6 e7 e8 => hf.at rfl
      simp [-List.map_map, -List.length_map, -pq_appAt, hold, at3]
      refine ⟨by omega, by rw [List.length_map, List.length_map]; omega, ?_⟩
      have e1 : ((grp (keyOf names rows bys) i).map (·.1)).map kD ++ [PyData.list ((keyOf names rows bys i).map dW)] = ((grp (keyOf names rows bys) i).map (·.1) ++ [keyOf names rows bys i]).map kD := by simp [kD]
      have e2 : FoundC (partsT (keyOf names rows bys) i ++ [[]]) (.tl (((partsT (keyOf names rows bys) i).map fun p => p.map nD).map Cell.ow ++ [.ow []])) := .inr (by simp)
      have hn : grp (keyOf names rows bys) (i + 1) = grp (keyOf names rows bys) i ++ [(keyOf names rows bys i, [i])] := addP_new hold
      have ixe : ((grp (keyOf names rows bys) i).map (·.1) ++ [keyOf names rows bys i]).idxOf (keyOf names rows bys i) = (partsT (keyOf names rows bys) i).length := by
        rw [List.idxOf_append, if_neg hold]; simp [partsT]
      rw [e1]
      refine part_app (key := keyOf names rows bys) (.inr rfl) e2 (by simp) (by rw [hn]; simp) ⟨[], ?_, by simp, ?_⟩ fun e he => he
      · rw [ixe]; simp
      · rw [ixe, hn]; simp [partsT]
  · rintro e ⟨c, k5, k6, k7, rfl, hf⟩
    simp
    have : (enumD (rows.map dR)).length = rows.length := by simp [enumD]
    rw [this] at hf
    exact hf.data
end
end Com

set_option Elab.async false
set_option linter.all false
set_option maxRecDepth 100000
set_option maxHeartbeats 4000000
/-! the laws' ahead; names and orders drawn. -/
namespace Com
open PySem PySem.Spec L2 DL
theorem sok_up : Sok ("up" : Str) := by unfold Sok; decide +kernel
theorem sok_down : Sok ("down" : Str) := by unfold Sok; decide +kernel
section
variable {names : List Str} {rows : List Rw} {z : Str}
theorem osT_drop {order : List (Str × Str)} {i : Nat} (h : i < order.length) : osT names (order.drop i) = (names.idxOf order[i].1, decide (order[i].2 = ("up" : Str))) :: osT names (order.drop (i + 1)) := by
  rw [List.drop_eq_getElem_cons h]; rfl
theorem law_ahead_ok (T : Tab names rows) {order : List (Str × Str)} (hs : ∀ p ∈ order, Sok p.2) (ho : ∀ p ∈ order, p.1 ∈ names) {a b : Nat} (ha : a < rows.length) (hb : b < rows.length) :
    g_law_ahead [tabD names rows, .tuple (order.map dP), .int a, .int b] = .ok (.fz (.bool (ahd (osT names order) (vr rows a) (vr rows b)))) := by
  refine Okx.eq (okx_run ?_)
  simp only [b_law_ahead, pq_seq]
  simp only [envF]
  refine pq_forI (fun i e => (∃ k4 k5 k6 k7 k8 : Option Cell, e = [some (.fz (tabD names rows)), some (.fz (.tuple (order.map dP))), some (.fz (.int a)), some (.fz (.int b)), k4, k5, k6, k7, k8]) ∧ ahd (osT names order) (vr rows a) (vr rows b) = ahd (osT names (order.drop i)) (vr rows a) (vr rows b)) (order.map dP) ?_ ?_ ?_
  · simp
  · rintro i e ⟨⟨k4, k5, k6, k7, k8, rfl⟩, hi⟩ hl
    simp at hl
    rw [osT_drop hl] at hi
    have hq := ho _ (List.getElem_mem hl)
    have hq2 := hs _ (List.getElem_mem hl)
    rw [List.getElem_map]
    generalize order[i] = q at hi hq hq2
    have xa : names.idxOf q.1 < (vr rows a).length := by rw [T.wide ha]; exact List.idxOf_lt_length_iff.mpr hq
    have xb : names.idxOf q.1 < (vr rows b).length := by rw [T.wide hb]; exact List.idxOf_lt_length_iff.mpr hq
    have eq1 := dEq_nice (a := .str q.2) (b := .str "up") ((nice_str hq2).mono (Nat.zero_le _)) ((nice_str (k := 0) sok_up).mono (Nat.zero_le _))
    have eb : ∀ x y : Bool, dEq (.bool x) (.bool y) = some (.fz (.bool (x == y))) := fun x y => by
      cases x <;> cases y <;> rfl
    rw [ahd] at hi
    simp [dP, tIndex_names hq, dIdx_row ha, dIdx_row hb, dIdx_wth xa, dIdx_wth xb, dIdx_0, dIdx_1, dEq_nice nice_dW nice_dW, dW_inj, eq1, eb]
    generalize ge (vr rows a) (names.idxOf q.1) = wa at hi
    generalize ge (vr rows b) (names.idxOf q.1) = wb at hi
    by_cases e : wa = wb
    · rw [if_pos e] at hi
      simp [e, hi]
    · rw [if_neg e] at hi
      simp only [e, if_false]
      rw [hi]
      cases wa <;> cases wb <;> simp [dW, oLt, eb, eq1] at e ⊢
  · rintro e ⟨⟨k4, k5, k6, k7, k8, rfl⟩, hi⟩
    rw [List.length_map, List.drop_length] at hi
    have hi : ahd (osT names order) (vr rows a) (vr rows b) = false := hi
    simp [hi]
/-! ### names and orders drawn -/
theorem law_a_by_ok {hn : 1 ≤ names.length} (hl : names.length ≤ 100) {pick : Int} (h0 : 0 ≤ pick) (h1 : pick < 10000000) :
    Okx (g_law_a_by [.tuple (names.map .str), .int pick]) (fun c => ∃ bys : List Str, c = .fz (.tuple (bys.map .str)) ∧ bys.length ≤ 8 ∧ ∀ z ∈ bys, z ∈ names) noX := by
  have g := mod_in (n := pick) (m := 6) (by omega)
  obtain ⟨d, hd, ed⟩ := dIdx_mem (ds := [PyData.int 0, .int 1, .int 1, .int 2, .int 3, .int 8]) g.1 g.2
  obtain ⟨m, rfl, hm⟩ : ∃ m : Nat, d = .int m ∧ m ≤ 8 := by
    simp at hd
    rcases hd with rfl | rfl | rfl | rfl | rfl
    · exact ⟨0, rfl, by decide⟩
    · exact ⟨1, rfl, by decide⟩
    · exact ⟨2, rfl, by decide⟩
    · exact ⟨3, rfl, by decide⟩
    · exact ⟨8, rfl, by decide⟩
  refine okx_run ?_
  simp [b_law_a_by, envF]
  refine pq_forI (fun i e => ∃ (bys : List Str) (k : Option Cell), e = [some (.fz (.tuple (names.map .str))), some (.fz (.int pick)), some (.ow (bys.map .str)), k] ∧ bys.length = i ∧ ∀ z ∈ bys, z ∈ names) (rangeD 0 m) ?_ ?_ ?_
  · simp [wp_range1, ed]
    simp [sm62]; omega
  · rintro i e ⟨bys, k, rfl, hb, hbn⟩ hi
    simp at hi
    simp only [rangeD_get, Int.zero_add]
    have mm : mulOk (i : Int) (1 + pick / 60) = true := mulOk_l (by omega) (by omega)
    have g2 := mod_in (n := pick / 6 + (i : Int) * (1 + pick / 60)) (m := names.length) (by omega)
    have ix := dIdx_tuple (ds := names.map PyData.str) (i := (pick / 6 + (i : Int) * (1 + pick / 60)) % names.length)
    rw [atI_in g2.1 (by simpa using g2.2)] at ix
    simp [mm, ix]
    refine ⟨by decide, by decide, by omega, by omega, bys ++ [_], by rw [List.map_append]; rfl, by simp [hb], ?_⟩
    intro z hz
    rcases List.mem_append.mp hz with q | q
    · exact hbn z q
    · simp at q; rw [q]; exact List.getElem_mem _
  · rintro e ⟨bys, k, rfl, hb, hbn⟩
    simp at hb
    simp
    exact ⟨bys, rfl, by omega, hbn⟩
end
end Com

set_option Elab.async false
set_option linter.all false
set_option maxRecDepth 100000
set_option maxHeartbeats 4000000
/-! orders drawn; part_with, ties_of; the law's look at a line. -/
namespace Com
open PySem PySem.Spec L2 DL
section
variable {names : List Str} {rows : List Rw} {z : Str}
def WayOk (p : Str × Str) : Prop := p.2 = "up" ∨ p.2 = "down"
theorem WayOk.sok {p : Str × Str} (h : WayOk p) : Sok p.2 := by
  rcases h with h | h <;> rw [h]
  · exact sok_up
  · exact sok_down
theorem law_a_order_ok {hn : 1 ≤ names.length} (hl : names.length ≤ 100) {pick : Int} (h0 : 0 ≤ pick) (h1 : pick < 10000000) :
    Okx (g_law_a_order [.tuple (names.map .str), .int pick]) (fun c => ∃ os : List (Str × Str), c = .fz (.tuple (os.map dP)) ∧ os.length ≤ 8 ∧ ∀ p ∈ os, p.1 ∈ names ∧ WayOk p) noX := by
  have g := mod_in (n := pick) (m := 6) (by omega)
  obtain ⟨d, hd, ed⟩ := dIdx_mem (ds := [PyData.int 1, .int 0, .int 1, .int 2, .int 3, .int 8]) g.1 g.2
  obtain ⟨m, rfl, hm⟩ : ∃ m : Nat, d = .int m ∧ m ≤ 8 := by
    simp at hd
    rcases hd with rfl | rfl | rfl | rfl | rfl | rfl
    · exact ⟨1, rfl, by decide⟩
    · exact ⟨0, rfl, by decide⟩
    · exact ⟨1, rfl, by decide⟩
    · exact ⟨2, rfl, by decide⟩
    · exact ⟨3, rfl, by decide⟩
    · exact ⟨8, rfl, by decide⟩
  refine okx_run ?_
  simp [b_law_a_order, envF]
  refine pq_forI (fun i e => ∃ (os : List (Str × Str)) (k k2 : Option Cell), e = [some (.fz (.tuple (names.map .str))), some (.fz (.int pick)), some (.ow (os.map dP)), k, k2] ∧ os.length = i ∧ ∀ p ∈ os, p.1 ∈ names ∧ WayOk p) (rangeD 0 m) ?_ ?_ ?_
  · simp [wp_range1, ed]
    simp [sm62]; omega
  · rintro i e ⟨os, k, k2, rfl, hb, hbn⟩ hi
    simp at hi
    simp only [rangeD_get, Int.zero_add]
    have mm : mulOk (i : Int) (1 + pick / 60) = true := mulOk_l (by omega) (by omega)
    have g2 := mod_in (n := pick / 6 + (i : Int) * (1 + pick / 60)) (m := names.length) (by omega)
    have ix := dIdx_tuple (ds := names.map PyData.str) (i := (pick / 6 + (i : Int) * (1 + pick / 60)) % names.length)
    rw [atI_in g2.1 (by simpa using g2.2)] at ix
    have sh : dShr (.int (pick / 600)) (.int (i : Int)) = some (.fz (.int (pick / 600 / 2 ^ i))) := by
      show (if (0 : Int) ≤ (i : Int) then some (Cell.fz (.int (pick / 600 / 2 ^ (i : Int).toNat))) else none) = _
      rw [if_pos (by omega)]; rfl
    have g3 := mod_in (n := pick / 600 / 2 ^ i) (m := 2) (by omega)
    obtain ⟨w, hw, ew⟩ := dIdx_mem (ds := [PyData.str "up", .str "down"]) g3.1 g3.2
    obtain ⟨way, rfl, hway⟩ : ∃ way : Str, w = .str way ∧ (way = "up" ∨ way = "down") := by
      simp at hw
      rcases hw with rfl | rfl
      · exact ⟨_, rfl, .inl rfl⟩
      · exact ⟨_, rfl, .inr rfl⟩
    simp [mm, ix, sh, ew]
    refine ⟨by decide, by decide, by omega, by decide, by omega, os ++ [(_, way)], by rw [List.map_append]; rfl, by simp [hb], ?_⟩
    intro a b hp
    rcases List.mem_append.mp hp with q | q
    · exact hbn (a, b) q
    · simp at q
      rw [q.1, q.2]
      exact ⟨List.getElem_mem _, hway⟩
  · rintro e ⟨os, k, k2, rfl, hb, hbn⟩
    simp at hb
    simp
    exact ⟨os, rfl, by omega, fun a b h => hbn (a, b) h⟩
theorem parts_uniq {key : Nat → Rw} {n : Nat} {p q : List Nat} {r : Nat} (hp : p ∈ partsT key n) (hq : q ∈ partsT key n) (h1 : r ∈ p) (h2 : r ∈ q) : p = q := by
  obtain ⟨g, hg, rfl⟩ := List.mem_map.mp hp
  obtain ⟨g', hg', rfl⟩ := List.mem_map.mp hq
  have G := grp_ok key n
  have e : g.1 = g'.1 := by rw [← ((G.each g hg).2.2.2 r h1).2, ← ((G.each g' hg').2.2.2 r h2).2]
  obtain ⟨i, hi, rfl⟩ := List.mem_iff_getElem.mp hg
  obtain ⟨j, hj, rfl⟩ := List.mem_iff_getElem.mp hg'
  have := (List.getElem_inj (i := i) (j := j) (h₀ := by simpa using hi) (h₁ := by simpa using hj) G.nd).mp (by simpa using e)
  subst this
  rfl
theorem parts_facts {key : Nat → Rw} {n : Nat} {p : List Nat} (hp : p ∈ partsT key n) : p ≠ [] ∧ p.Pairwise (· < ·) ∧ p.length ≤ n ∧ ∀ r ∈ p, r < n := by
  obtain ⟨g, hg, rfl⟩ := List.mem_map.mp hp
  obtain ⟨a, b, c, d⟩ := (grp_ok key n).each g hg
  exact ⟨a, b, c, fun r hr => (d r hr).1⟩
theorem nD_inj {a b : Nat} (h : nD a = nD b) : a = b := by unfold nD at h; injection h with h; omega
theorem nice_nDs {k : Nat} {p : List Nat} : NiceAll k (p.map nD) := fun d hd => by
  obtain ⟨r, _, rfl⟩ := List.mem_map.mp hd
  exact Nice.int
theorem mem_nD {p : List Nat} {r : Nat} : nD r ∈ p.map nD ↔ r ∈ p := by
  constructor
  · intro h
    obtain ⟨a, ha, e⟩ := List.mem_map.mp h
    rw [← nD_inj e]; exact ha
  · exact fun h => List.mem_map.mpr ⟨r, h, rfl⟩
theorem part_with_ok (T : Tab names rows) {bys : List Str} (hb : ∀ z ∈ bys, z ∈ names) (hbl : bys.length ≤ 1000) {p : List Nat} (hp : p ∈ partsT (keyOf names rows bys) rows.length) {r : Nat} (hr : r ∈ p) :
    g_part_with [tabD names rows, .tuple (bys.map .str), .int r] = .ok (.fz (lsD p)) := by
  refine Okx.eq (okx_run ?_)
  simp only [b_part_with, pq_seq]
  simp only [envF]
  refine pq_forI (fun i e => (∃ k : Option Cell, e = [some (.fz (tabD names rows)), some (.fz (.tuple (bys.map .str))), some (.fz (.int r)), k]) ∧ ∀ q ∈ (partsT (keyOf names rows bys) rows.length).take i, r ∉ q) ((partsT (keyOf names rows bys) rows.length).map lsD) ?_ ?_ ?_
  · simp [parts_of_ok T hb hbl]
  · rintro i e ⟨⟨k, rfl⟩, hi⟩ hl
    simp at hl
    rw [List.getElem_map]
    have hin := dInC_list (d := nD r) (ds := ((partsT (keyOf names rows bys) rows.length)[i]).map nD) Nice.int nice_nDs
    have hin' : dInC (.int r) (lsD (partsT (keyOf names rows bys) rows.length)[i]) = some (.fz (.bool (decide (r ∈ (partsT (keyOf names rows bys) rows.length)[i])))) := by
      show dInC (nD r) (.list _) = _
      rw [hin]
      simp [mem_nD]
    simp [hin']
    by_cases h : r ∈ (partsT (keyOf names rows bys) rows.length)[i]
    · simp [h]
      rw [parts_uniq hp (List.getElem_mem hl) hr h]
    · simp [h]
      intro q hq
      rw [List.take_succ_eq_append_getElem hl, List.mem_append] at hq
      rcases hq with q' | q'
      · exact hi q q'
      · simp at q'; rw [q']; exact h
  · rintro e ⟨⟨k, rfl⟩, hi⟩
    simp at hi
    exact absurd hr (hi p hp)
theorem ties_of_ok (T : Tab names rows) {bys : List Str} (hb : ∀ z ∈ bys, z ∈ names) (hbl : bys.length ≤ 1000) {order : List (Str × Str)} (ho : ∀ p ∈ order, p.1 ∈ names) (hol : order.length ≤ 1000) {p : List Nat} (hp : p ∈ partsT (keyOf names rows bys) rows.length) {r : Nat} (hr : r ∈ p) :
    g_ties_of [tabD names rows, .tuple (bys.map .str), .tuple (order.map dP), .int r] = .ok (.ow ((p.filter fun x => decide (alk (osT names order) (vr rows r) (vr rows x))).map nD)) := by
  have F := parts_facts hp
  have hrr := T.r200
  have nn := need_names_in T (zs := order.map (·.1)) (d := .list ((order.map (·.1)).map .str)) rfl (fun z hz => by
    obtain ⟨p, hp, rfl⟩ := List.mem_map.mp hz
    exact ho p hp)
  rw [List.map_map] at nn
  simp [Function.comp_def] at nn
  refine Okx.eq (okx_run ?_)
  simp only [b_ties_of, pq_seq]
  simp [envF, part_with_ok T hb hbl hp hr]
  refine wp_compM dP (fun p => .str p.1) order ?_
  simp [nn, dIdx_dP]
  refine ⟨by omega, ?_⟩
  refine wp_comp nD nD (fun x => decide (alk (osT names order) (vr rows r) (vr rows x))) p ?_
  simp [lsD]
  refine ⟨by have := F.2.2.1; omega, fun x hx => ?_⟩
  simp [nD, are_alike_ok T ho (by omega) (F.2.2.2 r hr) (F.2.2.2 x hx)]
theorem ties_of_out (T : Tab names rows) {bys : List Str} (hb : ∀ z ∈ bys, z ∈ names) (hbl : bys.length ≤ 1000) {order : List (Str × Str)} (hs : ∀ p ∈ order, Sok p.1) (ho : ∃ p ∈ order, p.1 ∉ names) (hol : order.length ≤ 1000) {p : List Nat} (hp : p ∈ partsT (keyOf names rows bys) rows.length) {r : Nat} (hr : r ∈ p) :
    g_ties_of [tabD names rows, .tuple (bys.map .str), .tuple (order.map dP), .int r] = .ex "NoName" := by
  obtain ⟨q, hq, hn⟩ := ho
  have nn := need_names_out T (zs := order.map (·.1)) (d := .list ((order.map (·.1)).map .str)) rfl (fun z hz => by
    obtain ⟨p, hp, rfl⟩ := List.mem_map.mp hz
    exact hs p hp) ⟨q.1, List.mem_map.mpr ⟨q, hq, rfl⟩, hn⟩
  rw [List.map_map] at nn
  simp [Function.comp_def] at nn
  refine okx_ex (okx_run ?_)
  simp only [b_ties_of, pq_seq]
  simp [envF, part_with_ok T hb hbl hp hr]
  refine wp_compM dP (fun p => .str p.1) order ?_
  simp [nn, dIdx_dP]
  omega
theorem line_right_ok (T : Tab names rows) {order : List (Str × Str)} (hs : ∀ p ∈ order, Sok p.2) (ho : ∀ p ∈ order, p.1 ∈ names) {part : List Nat} (hp : part.Pairwise (· < ·)) (hl : part.length ≤ 1000) (hr : ∀ r ∈ part, r < rows.length) :
    g_law_line_right_k03 [tabD names rows, lsD part, .tuple (order.map dP), .list ((ordT (vr rows) (osT names order) part).map nD)] = .ok (.fz (.bool true)) := by
  have lx := ordT_sorted (v := vr rows) (os := osT names order) hp
  have pm := ordT_perm (v := vr rows) (os := osT names order) (part := part)
  generalize ordT (vr rows) (osT names order) part = line at lx pm
  have hlr : ∀ r ∈ line, r < rows.length := fun r h => hr r (pm.mem_iff.mp h)
  have hb : bSorted [.list (line.map nD)] = some (.ow (part.map nD)) := by
    rw [lsD_ints, bSorted_ints, lsD_ints]
    congr 3
    refine sortI_of (pm.map _) ?_
    rw [List.pairwise_map]
    exact hp.imp fun q => by omega
  have ne : dNe (.list (part.map nD)) (lsD part) = some (.fz (.bool false)) := by
    unfold lsD
    rw [dNe_nice (Nice.list (k := 63) nice_nDs) (Nice.list (k := 63) nice_nDs)]
    simp
  refine Okx.eq (okx_run ?_)
  simp only [b_law_line_right_k03, pq_seq]
  simp [-bSorted_list, envF, hb, ne]
  refine pq_forI (fun i e => ∃ k4 k5 : Option Cell, e = [some (.fz (tabD names rows)), some (.fz (lsD part)), some (.fz (.tuple (order.map dP))), some (.fz (.list (line.map nD))), k4, k5]) (rangeD 1 (line.length - 1)) ?_ ?_ ?_
  · simp [wp_range2, sm62]
    have := pm.length_eq
    refine ⟨1, line.length, ⟨rfl, rfl⟩, ⟨⟨by decide, by decide⟩, by omega, by omega⟩, ?_⟩
    congr 1; omega
  · rintro i e ⟨k4, k5, rfl⟩ hi
    simp at hi
    simp only [rangeD_get]
    have i1 : i + 1 < line.length := by omega
    have x1 : dIdx (.list (line.map nD)) (.int (1 + (i : Int))) = some (.fz (.int (line[i + 1] : Nat))) := by
      rw [show (1 + (i : Int)) = ((i + 1 : Nat) : Int) by omega, dIdx_list_nat i1]; rfl
    have x0 : dIdx (.list (line.map nD)) (.int (1 + (i : Int) - 1)) = some (.fz (.int (line[i] : Nat))) := by
      rw [show (1 + (i : Int) - 1) = ((i : Nat) : Int) by omega, dIdx_list_nat (by omega : i < line.length)]; rfl
    have L : Lx (vr rows) (osT names order) line[i] line[i + 1] := (List.pairwise_iff_getElem.mp lx) i (i + 1) (by omega) i1 (by omega)
    have ra := hlr _ (List.getElem_mem (show i < line.length by omega))
    have rb := hlr _ (List.getElem_mem i1)
    have a1 := law_ahead_ok T hs ho rb ra
    have a2 := law_ahead_ok T hs ho ra rb
    have n1 : ahd (osT names order) (vr rows line[i + 1]) (vr rows line[i]) = false := by
      rcases L with q | ⟨q, _⟩
      · exact ahd_asym q
      · exact ahd_alk (alk_symm q)
    rw [n1] at a1
    simp [x0, x1, a1, a2]
    rcases L with q | ⟨q, q2⟩
    · simp [q]
    · simp [ahd_alk q]; omega
  · rintro e ⟨k4, k5, rfl⟩
    simp
end
end Com

set_option Elab.async false
set_option linter.all false
set_option maxRecDepth 100000
set_option maxHeartbeats 4000000
/-! lines and groups: the law's line, the law's groups, groups_of. -/
namespace Com
open PySem PySem.Spec L2 DL
section
variable {names : List Str} {rows : List Rw}
/-- the groups of a line -/
def grpN (v : Nat → Rw) (os : List OP) (line : List Nat) : Nat → Nat
  | 0 => 0
  | k + 1 => grpN v os line k + (if decide (alk os (v (line.getD k 0)) (v (line.getD (k + 1) 0))) = true then 0 else 1)
def grpL (v : Nat → Rw) (os : List OP) (line : List Nat) (n : Nat) : List Nat := (List.range n).map (grpN v os line)
theorem grpL_succ {v : Nat → Rw} {os : List OP} {line : List Nat} {n : Nat} : grpL v os line (n + 1) = grpL v os line n ++ [grpN v os line n] := by
  unfold grpL
  rw [List.range_succ, List.map_append]; rfl
theorem grpN_le {v : Nat → Rw} {os : List OP} {line : List Nat} : ∀ n, grpN v os line n ≤ n
  | 0 => Nat.le_refl _
  | n + 1 => by
    have := grpN_le (v := v) (os := os) (line := line) n
    unfold grpN
    split <;> omega
def gPrev (v : Nat → Rw) (os : List OP) (line : List Nat) (i : Nat) : Nat := grpN v os line (i - 1)
theorem getD_of_lt {l : List Nat} {i : Nat} (h : i < l.length) : l.getD i 0 = l[i] := by
  rw [List.getD_eq_getElem?_getD, List.getElem?_eq_getElem h]; rfl
theorem groups_of_ok (T : Tab names rows) {order : List (Str × Str)} (ho : ∀ p ∈ order, p.1 ∈ names) (hol : order.length ≤ 1000) {line : List Nat} (hr : ∀ r ∈ line, r < rows.length) (hl : line.length ≤ 1000) :
    g_groups_of [tabD names rows, .list (line.map nD), .tuple (order.map dP)] = .ok (.ow ((grpL (vr rows) (osT names order) line line.length).map nD)) := by
  refine Okx.eq (okx_run ?_)
  simp only [b_groups_of, pq_seq]
  simp [envF]
  refine pq_forI (fun i e => ∃ k5 k6 : Option Cell, e = [some (.fz (tabD names rows)), some (.fz (.list (line.map nD))), some (.fz (.tuple (order.map dP))), some (.ow ((grpL (vr rows) (osT names order) line i).map nD)), some (.fz (.int (gPrev (vr rows) (osT names order) line i : Nat))), k5, k6]) (enumD (line.map nD)) ?_ ?_ ?_
  · simp [grpL, gPrev, grpN]
  · rintro i e ⟨k5, k6, rfl⟩ hi
    have hi' : i < line.length := by simpa [enumD] using hi
    have ei : (enumD (line.map nD))[i] = .tuple [.int (i : Nat), .int (line[i] : Nat)] := by simp [enumD, nD]
    rw [ei]
    have gl : (grpL (vr rows) (osT names order) line i).length = i := by simp [grpL]
    cases i with
    | zero =>
      simp [gl]
      rw [grpL_succ (n := 0)]
      simp [gPrev, nD]
    | succ j =>
      have a := are_alike_ok T ho (by omega) (hr _ (List.getElem_mem (show j < line.length by omega))) (hr _ (List.getElem_mem hi'))
      have x0 : dIdx (.list (line.map nD)) (.int (((j + 1 : Nat) : Int) - 1)) = some (.fz (.int (line[j] : Nat))) := by
        rw [show (((j + 1 : Nat) : Int) - 1) = ((j : Nat) : Int) by omega, dIdx_list_nat (by omega : j < line.length)]; rfl
      have x0' : dIdx (.list (line.map nD)) (.int (j : Int)) = some (.fz (.int (line[j] : Nat))) := by
        rw [dIdx_list_nat (by omega : j < line.length)]; rfl
      have st : grpN (vr rows) (osT names order) line (j + 1) = grpN (vr rows) (osT names order) line j + (if decide (alk (osT names order) (vr rows line[j]) (vr rows line[j + 1])) = true then 0 else 1) := by
        rw [grpN, getD_of_lt (by omega : j < line.length), getD_of_lt hi']
      have hj : (0 : Int) < (j : Int) + 1 := by omega
      simp [x0', a, gl, hj]
      rw [grpL_succ (n := j + 1)]
      by_cases q : alk (osT names order) (vr rows line[j]) (vr rows line[j + 1])
      · simp [q] at st ⊢
        refine ⟨by omega, ?_⟩
        simp [gPrev, st, nD]
      · simp [q] at st ⊢
        refine ⟨by omega, ?_⟩
        simp [gPrev, st, nD]
  · rintro e ⟨k5, k6, rfl⟩
    have : (enumD (line.map nD)).length = line.length := by simp [enumD]
    simp [this]
theorem law_groups_ok (T : Tab names rows) {order : List (Str × Str)} (hs : ∀ p ∈ order, Sok p.2) (ho : ∀ p ∈ order, p.1 ∈ names) {line : List Nat} (hr : ∀ r ∈ line, r < rows.length) (hl : line.length ≤ 1000) (lx : line.Pairwise (Lx (vr rows) (osT names order))) :
    g_law_a_groups [tabD names rows, .list (line.map nD), .tuple (order.map dP)] = .ok (.ow ((grpL (vr rows) (osT names order) line line.length).map nD)) := by
  refine Okx.eq (okx_run ?_)
  simp only [b_law_a_groups, pq_seq]
  simp [envF]
  refine pq_forI (fun i e => ∃ k5 : Option Cell, e = [some (.fz (tabD names rows)), some (.fz (.list (line.map nD))), some (.fz (.tuple (order.map dP))), some (.ow ((grpL (vr rows) (osT names order) line i).map nD)), some (.fz (.int (gPrev (vr rows) (osT names order) line i : Nat))), k5]) (rangeD 0 line.length) ?_ ?_ ?_
  · simp [wp_range1]
    refine ⟨by simp [sm62]; omega, ?_⟩
    simp [grpL, gPrev, grpN]
  · rintro i e ⟨k5, rfl⟩ hi
    simp at hi
    simp only [rangeD_get, Int.zero_add]
    have gl : (grpL (vr rows) (osT names order) line i).length = i := by simp [grpL]
    cases i with
    | zero =>
      simp [gl]
      rw [grpL_succ (n := 0)]
      simp [gPrev, nD]
    | succ j =>
      have L : Lx (vr rows) (osT names order) line[j] line[j + 1] := (List.pairwise_iff_getElem.mp lx) j (j + 1) (by omega) hi (by omega)
      have a := law_ahead_ok T hs ho (hr _ (List.getElem_mem (show j < line.length by omega))) (hr _ (List.getElem_mem hi))
      rw [L.ahd_iff] at a
      have x0' : dIdx (.list (line.map nD)) (.int (j : Int)) = some (.fz (.int (line[j] : Nat))) := by
        rw [dIdx_list_nat (by omega : j < line.length)]; rfl
      have x1' : dIdx (.list (line.map nD)) (.int ((j : Int) + 1)) = some (.fz (.int (line[j + 1] : Nat))) := by
        rw [show ((j : Int) + 1) = ((j + 1 : Nat) : Int) by omega, dIdx_list_nat hi]; rfl
      have st : grpN (vr rows) (osT names order) line (j + 1) = grpN (vr rows) (osT names order) line j + (if decide (alk (osT names order) (vr rows line[j]) (vr rows line[j + 1])) = true then 0 else 1) := by
        rw [grpN, getD_of_lt (by omega : j < line.length), getD_of_lt hi]
      have hj : (0 : Int) < (j : Int) + 1 := by omega
      simp [x0', x1', a, gl, hj]
      rw [grpL_succ (n := j + 1)]
      by_cases q : alk (osT names order) (vr rows line[j]) (vr rows line[j + 1])
      · simp [q] at st ⊢
        refine ⟨by omega, ?_⟩
        simp [gPrev, st, nD]
      · simp [q] at st ⊢
        refine ⟨by omega, ?_⟩
        simp [gPrev, st, nD]
  · rintro e ⟨k5, rfl⟩
    simp
def mu5 : DL.LE → Nat
  | [_, _, _, _, _, some (.fz (.int k))] => k.toNat
  | _ => 0
theorem law_line_ok (T : Tab names rows) {order : List (Str × Str)} (hs : ∀ p ∈ order, Sok p.2) (ho : ∀ p ∈ order, p.1 ∈ names) {part : List Nat} (hp : part.Pairwise (· < ·)) (hl : part.length ≤ 200) (hr : ∀ r ∈ part, r < rows.length) :
    g_law_a_line [tabD names rows, lsD part, .tuple (order.map dP)] = .ok (.ow ((ordT (vr rows) (osT names order) part).map nD)) := by
  rw [← ins_ord (v := vr rows) (os := osT names order) hp]
  refine Okx.eq (okx_run ?_)
  simp only [b_law_a_line, pq_seq]
  simp [envF, lsD]
  refine pq_forI (fun i e => ∃ (l : List Nat) (k4 k5 : Option Cell), e = [some (.fz (tabD names rows)), some (.fz (.list (part.map nD))), some (.fz (.tuple (order.map dP))), some (.ow (l.map nD)), k4, k5] ∧ l = (part.take i).foldl (insT (vr rows) (osT names order)) []) (part.map nD) ?_ ?_ ?_
  · simp
  · rintro i e ⟨l, k4, k5, rfl, hlq⟩ hi
    simp at hi
    rw [List.getElem_map]
    have xr := hr _ (List.getElem_mem hi)
    have st : (part.take (i + 1)).foldl (insT (vr rows) (osT names order)) [] = insT (vr rows) (osT names order) l part[i] := by
      rw [List.take_succ_eq_append_getElem hi, List.foldl_append, ← hlq]; rfl
    have tk : (part.take i).Pairwise (· < ·) := hp.sublist (List.take_sublist _ _)
    have pm : l.Perm (part.take i) := by
      rw [hlq]
      have := (ins_all (v := vr rows) (os := osT names order) (l := []) (part := part.take i) .nil tk (by simp)).2
      simpa using this
    have lr : ∀ r ∈ l, r < rows.length := fun r h => hr r (List.mem_of_mem_take (pm.mem_iff.mp h))
    have ll : l.length ≤ 200 := by rw [pm.length_eq]; simp; omega
    rw [st]
    generalize part[i] = x at xr
    simp
    refine pq_mid (fun e => e = [some (.fz (tabD names rows)), some (.fz (.list (part.map nD))), some (.fz (.tuple (order.map dP))), some (.ow (l.map nD)), some (.fz (nD x)), some (.fz (.int (insAt (vr rows) (osT names order) x l l.length : Nat)))]) ?_ ?_
    · refine pq_wh (fun e => ∃ k : Nat, k ≤ l.length ∧ e = [some (.fz (tabD names rows)), some (.fz (.list (part.map nD))), some (.fz (.tuple (order.map dP))), some (.ow (l.map nD)), some (.fz (nD x)), some (.fz (.int (k : Nat)))] ∧ insAt (vr rows) (osT names order) x l k = insAt (vr rows) (osT names order) x l l.length)
        mu5 1000 _ ⟨l.length, Nat.le_refl _, by simp, rfl⟩ (by simp [mu5]; omega) ?_
      rintro e ⟨k, hk, rfl, hin⟩
      cases k with
      | zero =>
        simp
        rw [← hin]; simp [insAt]
      | succ j =>
        have hj : j < l.length := by omega
        have x0' : dIdx (.list (l.map nD)) (.int (j : Int)) = some (.fz (.int (l[j] : Nat))) := by
          rw [dIdx_list_nat hj]; rfl
        have a := law_ahead_ok T hs ho xr (lr _ (List.getElem_mem hj))
        have hj0 : (0 : Int) < (j : Int) + 1 := by omega
        have hs0 : insAt (vr rows) (osT names order) x l (j + 1) = if ahd (osT names order) (vr rows x) (vr rows l[j]) = true then insAt (vr rows) (osT names order) x l j else j + 1 := by
          rw [insAt, getD_of_lt hj]
        rw [hs0] at hin
        simp [hj0, x0']
        have nx : nD x = .int (x : Nat) := rfl
        rw [nx, a]
        simp
        cases q : ahd (osT names order) (vr rows x) (vr rows l[j]) with
        | true =>
          rw [q] at hin
          simp at hin
          simp
          exact ⟨⟨j, by omega, rfl, hin⟩, by simp [mu5]⟩
        | false =>
          rw [q] at hin
          simp at hin
          simp [← hin, nx]
    · rintro e rfl
      simp
      have il := insAt_le (v := vr rows) (os := osT names order) (x := x) (l := l) (k := l.length)
      refine ⟨⟨by omega, by omega⟩, ?_⟩
      simp [insT]
  · rintro e ⟨l, k4, k5, rfl, hlq⟩
    simp at hlq
    simp [hlq]
end
end Com

set_option Elab.async false
set_option linter.all false
set_option maxRecDepth 100000
set_option maxHeartbeats 4000000
/-! places, in plain Lean: the rank, the pieces. -/
namespace Com
theorem idx_count : ∀ {l : List Nat} {x : Nat}, l.Pairwise (· ≤ ·) → x ∈ l → l.idxOf x = (l.filter fun y => decide (y < x)).length
  | [], _, _, h => by cases h
  | y :: l, x, hp, h => by
    rw [List.pairwise_cons] at hp
    by_cases e : y = x
    · subst e
      rw [List.idxOf_cons_self]
      have : l.filter (fun z => decide (z < y)) = [] := List.filter_eq_nil_iff.mpr fun z hz => by
        have := hp.1 z hz
        simp; omega
      rw [List.filter_cons]
      simp [this]
    · have hx : x ∈ l := List.mem_of_ne_of_mem (Ne.symm e) h
      have := hp.1 x hx
      have ih := idx_count hp.2 hx
      rw [List.idxOf_cons, List.filter_cons]
      have b : (y == x) = false := by simpa using e
      have c : decide (y < x) = true := by simp; omega
      rw [b, c]
      simp [ih]
/-! ### pieces -/
def cntP (q r k : Nat) : Nat := q + (if k < r then 1 else 0)
def preP (q r : Nat) : Nat → List Nat
  | 0 => []
  | k + 1 => preP q r k ++ List.replicate (cntP q r k) k
def sumP (q r : Nat) : Nat → Nat
  | 0 => 0
  | k + 1 => sumP q r k + cntP q r k
theorem preP_len (q r : Nat) : ∀ k, (preP q r k).length = sumP q r k
  | 0 => rfl
  | k + 1 => by simp [preP, sumP, preP_len q r k]
theorem sumP_eq (q r : Nat) : ∀ k, sumP q r k = k * q + min k r
  | 0 => by simp [sumP]
  | k + 1 => by
    rw [sumP, sumP_eq q r k, cntP, Nat.succ_mul]
    split <;> omega
theorem preP_at {q r : Nat} {k at_ : Nat} : ∀ {m : Nat}, k < m → sumP q r k ≤ at_ → at_ < sumP q r (k + 1) → (preP q r m)[at_]? = some k
  | 0, h, _, _ => by omega
  | m + 1, h, h1, h2 => by
    rw [preP]
    by_cases e : k = m
    · subst e
      rw [List.getElem?_append_right (by rw [preP_len]; exact h1), preP_len, List.getElem?_replicate]
      rw [sumP] at h2
      rw [if_pos (by omega)]
    · have hlt : at_ < (preP q r m).length := by
        rw [preP_len]
        have mono : sumP q r (k + 1) ≤ sumP q r m := by
          rw [sumP_eq, sumP_eq]
          have : (k + 1) * q ≤ m * q := Nat.mul_le_mul_right q (by omega)
          omega
        omega
      rw [List.getElem?_append_left hlt]
      exact preP_at (by omega) h1 h2
/-- the piece -/
def pieceT (q r at_ : Nat) : Nat := if at_ < r * (q + 1) then at_ / (q + 1) else r + (at_ - r * (q + 1)) / q
theorem pieceT_ok {n len at_ : Nat} (hn : 0 < n) (h : at_ < len) : (preP (len / n) (len % n) n)[at_]? = some (pieceT (len / n) (len % n) at_) := by
  have e := Nat.div_add_mod len n
  have hr := Nat.mod_lt len hn
  generalize len / n = q at e ⊢
  generalize len % n = r at e hr ⊢
  unfold pieceT
  split
  · rename_i c
    have d1 := Nat.div_mul_le_self at_ (q + 1)
    have d2 := Nat.lt_div_mul_add (a := at_) (b := q + 1) (by omega)
    have j1 : at_ / (q + 1) < r := Nat.div_lt_of_lt_mul (by rw [Nat.mul_comm]; exact c)
    generalize at_ / (q + 1) = j at d1 d2 j1
    rw [Nat.mul_succ] at d1 d2
    refine preP_at (by omega) ?_ ?_
    · rw [sumP_eq]; omega
    · rw [sumP_eq, Nat.succ_mul]; omega
  · rename_i c
    have q0 : 0 < q := by
      rcases Nat.eq_zero_or_pos q with z | z
      · subst z
        simp at c e
        omega
      · exact z
    generalize hx : at_ - r * (q + 1) = x
    have ax : at_ = r * (q + 1) + x := by omega
    have d1 := Nat.div_mul_le_self x q
    have d2 := Nat.lt_div_mul_add (a := x) (b := q) q0
    have e2 : n * q + r = len := e
    have j1 : x / q < n - r := by
      refine Nat.div_lt_of_lt_mul ?_
      rw [Nat.mul_sub, Nat.mul_comm q n, Nat.mul_comm q r]
      rw [Nat.mul_succ] at ax
      omega
    generalize x / q = j at d1 d2 j1
    rw [Nat.mul_succ] at ax
    refine preP_at (by omega) ?_ ?_
    · rw [sumP_eq, Nat.add_mul]; omega
    · rw [sumP_eq, Nat.succ_mul, Nat.add_mul]; omega
end Com

set_option Elab.async false
set_option linter.all false
set_option maxRecDepth 100000
set_option maxHeartbeats 4000000
/-! k07: the places. -/
namespace Com
open PySem PySem.Spec L2 DL
inductive Plc where
  | number | rank | dense
  | back (z : Str) (k : Nat) | on_ (z : Str) (k : Nat)
  | pieces (n : Nat)
def Plc.D : Plc → D
  | number => .tuple [.str "number"]
  | rank => .tuple [.str "rank"]
  | dense => .tuple [.str "dense"]
  | back z k => .tuple [.str "back", .str z, .int k]
  | on_ z k => .tuple [.str "on", .str z, .int k]
  | pieces n => .tuple [.str "pieces", .int n]
def Plc.Ok (names : List Str) : Plc → Prop
  | back z k => z ∈ names ∧ k ≤ 10 ^ 39
  | on_ z k => z ∈ names ∧ k ≤ 10 ^ 39
  | pieces n => 1 ≤ n ∧ n ≤ 61
  | _ => True
section
variable {names : List Str} {rows : List Rw}
def wAt (names : List Str) (rows : List Rw) (z : Str) (line : List Nat) (i : Int) : Option Int := if 0 ≤ i ∧ i < line.length then ge (vr rows (line.getD i.toNat 0)) (names.idxOf z) else none
/-- what the measure tells at the place -/
def Plc.at (names : List Str) (rows : List Rw) (line gs : List Nat) (i : Nat) : Plc → Option Int
  | number => some (i : Int)
  | rank => some ((gs.idxOf (gs.getD i 0) : Nat) : Int)
  | dense => some ((gs.getD i 0 : Nat) : Int)
  | back z k => wAt names rows z line ((i : Int) - k)
  | on_ z k => wAt names rows z line ((i : Int) + k)
  | pieces n => some ((pieceT (line.length / n) (line.length % n) i : Nat) : Int)
theorem eqS {a b : Str} (ha : Sok a) (hb : Sok b) : dEq (.str a) (.str b) = some (.fz (.bool (decide (a = b)))) := by
  rw [dEq_nice ((nice_str (k := 0) ha).mono (by omega)) ((nice_str (k := 0) hb).mono (by omega))]; simp
theorem eq_c : dEq (.str "number") (.str "number") = some (.fz (.bool true)) ∧ dEq (.str "rank") (.str "number") = some (.fz (.bool false)) ∧ dEq (.str "dense") (.str "number") = some (.fz (.bool false)) ∧ dEq (.str "back") (.str "number") = some (.fz (.bool false)) ∧ dEq (.str "on") (.str "number") = some (.fz (.bool false)) ∧ dEq (.str "pieces") (.str "number") = some (.fz (.bool false)) ∧
   dEq (.str "rank") (.str "rank") = some (.fz (.bool true)) ∧ dEq (.str "dense") (.str "rank") = some (.fz (.bool false)) ∧ dEq (.str "back") (.str "rank") = some (.fz (.bool false)) ∧ dEq (.str "on") (.str "rank") = some (.fz (.bool false)) ∧ dEq (.str "pieces") (.str "rank") = some (.fz (.bool false)) ∧
   dEq (.str "dense") (.str "dense") = some (.fz (.bool true)) ∧ dEq (.str "back") (.str "dense") = some (.fz (.bool false)) ∧ dEq (.str "on") (.str "dense") = some (.fz (.bool false)) ∧ dEq (.str "pieces") (.str "dense") = some (.fz (.bool false)) ∧
   dEq (.str "pieces") (.str "pieces") = some (.fz (.bool true)) ∧ dEq (.str "back") (.str "pieces") = some (.fz (.bool false)) ∧ dEq (.str "on") (.str "pieces") = some (.fz (.bool false)) ∧
   dEq (.str "back") (.str "back") = some (.fz (.bool true)) ∧ dEq (.str "on") (.str "back") = some (.fz (.bool false)) := by
  refine ⟨?_, ?_, ?_, ?_, ?_, ?_, ?_, ?_, ?_, ?_, ?_, ?_, ?_, ?_, ?_, ?_, ?_, ?_, ?_, ?_⟩ <;> first | rfl | kernel_rfl
theorem ix_c : ∀ (d : D) (ds : List D), dIdx (.tuple (d :: ds)) (.int 0) = some (.fz d) := fun d ds => by
  rw [dIdx_tuple]
  have := atI_nat (xs := d :: ds) (k := 0) (by simp)
  rw [show ((0 : Nat) : Int) = 0 from rfl] at this
  rw [this]; rfl
theorem ix_c1 : ∀ (a d : D) (ds : List D), dIdx (.tuple (a :: d :: ds)) (.int 1) = some (.fz d) := fun a d ds => by
  rw [dIdx_tuple]
  have := atI_nat (xs := a :: d :: ds) (k := 1) (by simp)
  rw [show ((1 : Nat) : Int) = 1 from rfl] at this
  rw [this]; rfl
theorem ix_c2 : ∀ (a b d : D) (ds : List D), dIdx (.tuple (a :: b :: d :: ds)) (.int 2) = some (.fz d) := fun a b d ds => by
  rw [dIdx_tuple]
  have := atI_nat (xs := a :: b :: d :: ds) (k := 2) (by simp)
  rw [show ((2 : Nat) : Int) = 2 from rfl] at this
  rw [this]; rfl
theorem at_place_ok {line : List Nat} {i : Int} (hl : line.length ≤ 1000) : g_at_place [.list (line.map nD), .int i] = .ok (.fz (if 0 ≤ i ∧ i < line.length then nD (line.getD i.toNat 0) else .none)) := by
  refine Okx.eq (okx_run ?_)
  simp [b_at_place, envF]
  by_cases h : 0 ≤ i
  · simp [h]
    by_cases h2 : i < line.length
    · have := dIdx_list_in (f := nD) (xs := line) h h2
      simp [h2, this, getD_of_lt (show i.toNat < line.length by omega)]
      rw [List.getElem?_eq_getElem (by omega)]; rfl
    · simp [h2]
  · simp [h]
theorem lg {j : Nat} (h : j ≤ 1000) : ((j : Int)).natAbs.log2 < 9000 := by
  rw [Int.natAbs_natCast]
  by_cases z : j = 0
  · subst z; decide
  · have := (Nat.log2_lt z (k := 10)).mpr (by omega)
    omega
theorem no_pylong {x : Int} {n : Nat} (h : n ≤ 1000) : Builtin.divisionGoesByPylong x n = false := by
  unfold Builtin.divisionGoesByPylong
  have l := lg h
  have : decide ((if (n : Int) == 0 then 0 else (n : Int).natAbs.log2 / 30 + 1) > 300) = false := by
    refine decide_eq_false ?_
    split
    · omega
    · omega
  simp only [this, Bool.false_and]
theorem piece_of_ok {len n i : Nat} (hn : 1 ≤ n) (hn2 : n ≤ 61) (hl : len ≤ 200) (hi : i < len) : g_piece_of [.int len, .int n, .int i] = .ok (.fz (.int (pieceT (len / n) (len % n) i : Nat))) := by
  have np := no_pylong (x := len) (n := n) (by omega)
  have q1 : len / n ≤ len := Nat.div_le_self _ _
  have r1 := Nat.mod_lt len (show n > 0 by omega)
  have hq0 : len / n = 0 → len % n = len := fun h => Nat.mod_eq_of_lt (by
    rcases Nat.div_eq_zero_iff.mp h with z | z
    · omega
    · exact z)
  have e1 : (len : Int) / (n : Int) = ((len / n : Nat) : Int) := rfl
  have e2 : (len : Int) % (n : Int) = ((len % n : Nat) : Int) := rfl
  refine Okx.eq (okx_run ?_)
  simp only [b_piece_of, pq_seq, envF]
  simp only [pq_divmod]
  simp [np, e1, e2]
  have lgq := lg (j := len / n + 1) (by omega)
  have lgq0 := lg (j := len / n) (by omega)
  rw [Int.natCast_add] at lgq
  generalize len / n = q at *
  generalize len % n = r at *
  have m1 : mulOk (r : Int) ((q : Int) + 1) = true := mulOk_l (by omega) (by omega)
  refine ⟨_, _, ⟨rfl, rfl⟩, ⟨by omega, np⟩, ?_⟩
  rw [e1, e2]
  simp [m1]
  unfold pieceT
  have ht : (r : Int) * ((q : Int) + 1) = ((r * (q + 1) : Nat) : Int) := by push_cast; rfl
  have hq1 : (q : Int) + 1 = ((q + 1 : Nat) : Int) := by push_cast; rfl
  have ht0 : q = 0 → r * (q + 1) = r := fun h => by rw [h]; omega
  rw [ht, hq1]
  generalize r * (q + 1) = t at *
  by_cases h : i < t
  · rw [if_pos (by omega), if_pos h]
    exact ⟨lg (by omega), rfl⟩
  · rw [if_neg (by omega), if_neg h]
    have q0 : 0 < q := by
      rcases Nat.eq_zero_or_pos q with z | z
      · have := ht0 z
        have := hq0 z
        omega
      · exact z
    refine ⟨⟨q0, by simpa using lgq0⟩, ?_⟩
    rw [show (i : Int) - (t : Int) = ((i - t : Nat) : Int) by omega]
    rfl
theorem wAt_fin (T : Tab names rows) {z : Str} (hz : z ∈ names) {line : List Nat} (hr : ∀ r ∈ line, r < rows.length) {j : Int} :
    Okx (Rf.ok (Cell.fz (if 0 ≤ j ∧ j < line.length then nD (line.getD j.toNat 0) else PyData.none)))
      (fun c => pkO (some (some c)) fun d => if isNone d = true then PyData.none = dW (wAt names rows z line j) else
          frO (some (some c)) fun d c => Okx (g_worth [tabD names rows, d, PyData.str z]) (fun x => x = Cell.fz (dW (wAt names rows z line j))) noX) noX := by
  rw [okc_ok]
  unfold wAt
  by_cases h : 0 ≤ j ∧ j < line.length
  · have hm : line.getD j.toNat 0 ∈ line := by rw [getD_of_lt (show j.toNat < line.length by omega)]; exact List.getElem_mem _
    have w := worth_in T (hr _ hm) hz
    simp only [if_pos h]
    simp [-List.getD_eq_getElem?_getD, nD, w]
  · simp only [if_neg h]
    simp [dW]
theorem placed_ok (T : Tab names rows) {line gs : List Nat} {i : Nat} {m : Plc} (hm : m.Ok names) (hr : ∀ r ∈ line, r < rows.length) (hl : line.length ≤ 200) (hi : i < line.length) (hg : gs.length = line.length) :
    g_placed [tabD names rows, .list (line.map nD), .list (gs.map nD), m.D, .int i] = .ok (.fz (dW (m.at names rows line gs i))) := by
  obtain ⟨c1, c2, c3, c4, c5, c6, c7, c8, c9, c10, c11, c12, c13, c14, c15, c16, c17, c18, c19, c20⟩ := eq_c
  have gx : dIdx (.list (gs.map nD)) (.int i) = some (.fz (nD (gs.getD i 0))) := by
    rw [dIdx_list_nat (by omega : i < gs.length), getD_of_lt (by omega)]
  refine Okx.eq (okx_run ?_)
  simp only [b_placed, pq_seq, envF]
  cases m with
  | number => simp [Plc.D, ix_c, c1, Plc.at, dW]
  | rank =>
    have li : lIndex (gs.map nD) (nD (gs.getD i 0)) = some (.fz (.int (gs.idxOf (gs.getD i 0) : Nat))) := lIndex_map (f := nD) (fun a b h => nD_inj h) (fun y _ => Nice.int) (by rw [getD_of_lt (by omega)]; exact List.getElem_mem _)
    simp [-List.getD_eq_getElem?_getD, Plc.D, ix_c, c2, c7, Plc.at, dW, gx, li]
  | dense => simp [-List.getD_eq_getElem?_getD, Plc.D, ix_c, c3, c8, c12, Plc.at, dW, gx, nD]
  | pieces n =>
    simp [Plc.D, ix_c, ix_c1, c6, c11, c15, c16, Plc.at, dW]
    rw [piece_of_ok hm.1 hm.2 (by omega) hi]
    simp
  | back z k =>
    simp [Plc.D, ix_c, ix_c1, ix_c2, c4, c9, c13, c17, c19, Plc.at]
    rw [at_place_ok (by omega), ← Int.sub_eq_add_neg]
    exact wAt_fin T hm.1 hr
  | on_ z k =>
    simp [Plc.D, ix_c, ix_c1, ix_c2, c5, c10, c14, c18, c20, Plc.at]
    rw [at_place_ok (by omega)]
    exact wAt_fin T hm.1 hr
end
end Com

set_option Elab.async false
set_option linter.all false
set_option maxRecDepth 100000
set_option maxHeartbeats 4000000
/-! k07: the law's places. -/
namespace Com
open PySem PySem.Spec L2 DL
section
variable {names : List Str} {rows : List Rw}
theorem grpN_mono {v : Nat → Rw} {os : List OP} {line : List Nat} {i : Nat} : ∀ {j : Nat}, i ≤ j → grpN v os line i ≤ grpN v os line j
  | 0, h => by
    have : i = 0 := by omega
    rw [this]; exact Nat.le_refl _
  | j + 1, h => by
    by_cases e : i = j + 1
    · rw [e]; exact Nat.le_refl _
    · refine Nat.le_trans (grpN_mono (j := j) (by omega)) ?_
      rw [grpN]; omega
theorem grpL_pw {v : Nat → Rw} {os : List OP} {line : List Nat} {n : Nat} : (grpL v os line n).Pairwise (· ≤ ·) := by
  unfold grpL
  rw [List.pairwise_map]
  exact List.pairwise_lt_range.imp fun h => grpN_mono (Nat.le_of_lt h)
theorem grpL_len {v : Nat → Rw} {os : List OP} {line : List Nat} {n : Nat} : (grpL v os line n).length = n := by simp [grpL]
theorem rep1 {d : D} {j : Nat} (h : j ≤ 1000) : dMul (.list [d]) (.int j) = some (.ow (List.replicate j d)) := by
  have hs : [d].length * (j : Int).toNat ≤ sizeLine := by rw [sizeLine_eq]; simp; omega
  have e : dMul (.list [d]) (.int j) = if (j : Int) < 9223372036854775808 ∧ -9223372036854775808 ≤ (j : Int) ∧ [d].length * (j : Int).toNat ≤ sizeLine then some (.ow (List.replicate (j : Int).toNat [d]).flatten) else none := rfl
  rw [e, if_pos ⟨by omega, by omega, hs⟩, Int.toNat_natCast, List.flatten_replicate_singleton]
theorem piece_step {e : DL.LE} {P : Cell → DL.LE → Prop} {X : Str → Prop} {fs fk fm : M D} {ss : List D} {k m : Nat} (hk : m ≤ 1000) (hs : ss.length ≤ 1000000) (h1 : ∀ P X, Wp (fs e) P X = P (.list ss) e) (h2 : ∀ P X, Wp (fk e) P X = P (nD k) e) (h3 : ∀ P X, Wp (fm e) P X = P (.int m) e) :
    Wp (op2 dAdd fs (bnd (op2 dMul (bnd (mLst (mCons fk mNil)) dat) fm) dat) e) P X = P (.ow (ss ++ (List.replicate m k).map nD)) e := by
  have e1 : dMul (.list [nD k]) (.int m) = some (.ow (List.replicate m (nD k))) := rep1 hk
  have e2 : dAdd (.list ss) (.list (List.replicate m (nD k))) = some (.ow (ss ++ List.replicate m (nD k))) := by
    rw [dAdd_list, if_pos (by rw [sizeLine_eq]; simp; omega)]
  simp [h1, h2, h3, e1, e2]
theorem dIdx_map {α : Type} {f : α → D} {xs : List α} {i : Nat} {x : α} (h : xs[i]? = some x) : dIdx (.list (xs.map f)) (.int i) = some (.fz (f x)) := by
  obtain ⟨h1, h2⟩ := List.getElem?_eq_some_iff.mp h
  rw [dIdx_list_nat h1, h2]
theorem pn1 : dIdx (.list [PyData.int 1, .int (-1)]) (.int 1) = some (.fz (.int (-1))) := by
  first | rfl | kernel_rfl
theorem pn0 : dIdx (.list [PyData.int 1, .int (-1)]) (.int 0) = some (.fz (.int 1)) := by
  first | rfl | kernel_rfl
theorem law_placed_ok (T : Tab names rows) {line gs : List Nat} {i : Nat} {m : Plc} (hm : m.Ok names) (hr : ∀ r ∈ line, r < rows.length) (hl : line.length ≤ 200) (hi : i < line.length) (hg : gs.length = line.length) (hgs : gs.Pairwise (· ≤ ·)) :
    g_law_placed [tabD names rows, .list (line.map nD), .list (gs.map nD), m.D, .int i] = .ok (.fz (dW (m.at names rows line gs i))) := by
  obtain ⟨c1, c2, c3, c4, c5, c6, c7, c8, c9, c10, c11, c12, c13, c14, c15, c16, c17, c18, c19, c20⟩ := eq_c
  have gx : dIdx (.list (gs.map nD)) (.int i) = some (.fz (nD (gs.getD i 0))) := by
    rw [dIdx_list_nat (by omega : i < gs.length), getD_of_lt (by omega)]
  have gm : gs.getD i 0 ∈ gs := by rw [getD_of_lt (by omega)]; exact List.getElem_mem _
  refine Okx.eq (okx_run ?_)
  simp only [b_law_placed, pq_seq, envF]
  cases m with
  | number => simp [Plc.D, ix_c, c1, Plc.at, dW]
  | rank =>
    simp [-List.getD_eq_getElem?_getD, Plc.D, ix_c, c2, c7]
    refine wp_comp nD nD (fun g => decide (g < gs.getD i 0)) gs ?_
    simp [-List.getD_eq_getElem?_getD]
    refine ⟨by omega, ?_, fun x hx => ?_⟩
    · rw [← idx_count hgs gm]; rfl
    · simp [-List.getD_eq_getElem?_getD, gx, nD]
  | dense => simp [-List.getD_eq_getElem?_getD, Plc.D, ix_c, c3, c8, c12, Plc.at, dW, gx, nD]
  | pieces n =>
    simp only [Plc.D]
    simp [ix_c, c6, c11, c15, c16]
    have hn1 := hm.1
    have hn2 := hm.2
    have lgn := lg (j := n) (by omega)
    have q1 : line.length / n ≤ line.length := Nat.div_le_self _ _
    have e1 : (line.length : Int) / (n : Int) = ((line.length / n : Nat) : Int) := rfl
    have e2 : (line.length : Int) % (n : Int) = ((line.length % n : Nat) : Int) := rfl
    have pa := pieceT_ok (n := n) (len := line.length) (at_ := i) (by omega) hi
    have fin : Plc.at names rows line gs i (.pieces n) = some ((pieceT (line.length / n) (line.length % n) i : Nat) : Int) := rfl
    rw [fin]
    generalize hq : line.length / n = q at *
    generalize hr' : line.length % n = r at *
    refine pq_forI (fun j e => ∃ k7 k8 : Option Cell, e = [some (.fz (tabD names rows)), some (.fz (.list (line.map nD))), some (.fz (.list (gs.map nD))), some (.fz (.tuple [.str "pieces", .int n])), some (.fz (.int i)), none, some (.ow ((preP q r j).map nD)), k7, k8, none]) (rangeD 0 n) ?_ ?_ ?_
    · simp [wp_range1, ix_c1]
      refine ⟨by simp [sm62]; omega, ?_⟩
      simp [preP]
    · rintro j e ⟨k7, k8, rfl⟩ hj
      simp at hj
      simp only [rangeD_get, Int.zero_add]
      have c0 : cntP q r j ≤ 1000 := by unfold cntP; split <;> omega
      have pl : ((preP q r j).map nD).length ≤ 1000000 := by
        rw [List.length_map, preP_len, sumP_eq]
        have : j * q ≤ 61 * 200 := Nat.mul_le_mul (by omega) (by omega)
        omega
      have ce : (q : Int) + (if (j : Int) < (r : Int) then 1 else 0) = ((cntP q r j : Nat) : Int) := by
        unfold cntP
        split <;> split <;> omega
      refine ⟨_, rfl, ?_⟩
      refine pq_step (fun e => e = [some (.fz (tabD names rows)), some (.fz (.list (line.map nD))), some (.fz (.list (gs.map nD))), some (.fz (.tuple [.str "pieces", .int n])), some (.fz (.int i)), none, some (.ow ((preP q r j).map nD)), some (.fz (.int (j : Nat))), some (.fz (.int (cntP q r j : Nat))), none]) ?_ ?_
      · simp [ix_c1, e1, e2, hn1]
        refine ⟨⟨by omega, by simpa using lgn⟩, by omega, ?_⟩
        unfold cntP
        split <;> simp
      · rintro e rfl
        rw [pq_set, piece_step (k := j) (m := cntP q r j) c0 pl (fun P X => by simp) (fun P X => by simp [nD]) (fun P X => by simp)]
        simp [preP]
    · rintro e ⟨k7, k8, rfl⟩
      simp
      have := dIdx_map (f := nD) pa
      simp [this, dW, nD]
  | back z k =>
    have mo : mulOk (k : Int) (-1) = true := by unfold mulOk; simp
    have hat : Plc.at names rows line gs i (.back z k) = wAt names rows z line ((i : Int) + -(k : Int)) := by simp [Plc.at, Int.sub_eq_add_neg]
    simp [Plc.D, ix_c, ix_c1, ix_c2, c4, c9, c13, c17, c19, pn1, mo]
    rw [hat]
    generalize (i : Int) + -(k : Int) = j
    unfold wAt
    by_cases h : 0 ≤ j ∧ j < line.length
    · have hmm : line.getD j.toNat 0 ∈ line := by rw [getD_of_lt (show j.toNat < line.length by omega)]; exact List.getElem_mem _
      have hrr := hr _ hmm
      have lx : dIdx (.list (line.map nD)) (.int j) = some (.fz (.int (line.getD j.toNat 0 : Nat))) := by
        rw [dIdx_list_in h.1 h.2, getD_of_lt (show j.toNat < line.length by omega)]; rfl
      have xx : names.idxOf z < (vr rows (line.getD j.toNat 0)).length := by rw [T.wide hrr]; exact List.idxOf_lt_length_iff.mpr hm.1
      simp only [if_pos h]
      rw [if_neg (by omega), if_neg (by omega)]
      simp [-List.getD_eq_getElem?_getD, lx, dIdx_row hrr, dIdx_wth xx, ix_c1, tIndex_names hm.1]
    · simp only [if_neg h]
      by_cases h1 : j < 0
      · rw [if_pos h1]; rfl
      · rw [if_neg h1, if_pos (by omega)]; rfl
  | on_ z k =>
    have mo : mulOk (k : Int) 1 = true := by unfold mulOk; simp
    have hat : Plc.at names rows line gs i (.on_ z k) = wAt names rows z line ((i : Int) + (k : Int)) := by simp [Plc.at]
    simp [Plc.D, ix_c, ix_c1, ix_c2, c5, c10, c14, c18, c20, pn0, mo]
    rw [hat]
    generalize (i : Int) + (k : Int) = j
    unfold wAt
    by_cases h : 0 ≤ j ∧ j < line.length
    · have hmm : line.getD j.toNat 0 ∈ line := by rw [getD_of_lt (show j.toNat < line.length by omega)]; exact List.getElem_mem _
      have hrr := hr _ hmm
      have lx : dIdx (.list (line.map nD)) (.int j) = some (.fz (.int (line.getD j.toNat 0 : Nat))) := by
        rw [dIdx_list_in h.1 h.2, getD_of_lt (show j.toNat < line.length by omega)]; rfl
      have xx : names.idxOf z < (vr rows (line.getD j.toNat 0)).length := by rw [T.wide hrr]; exact List.idxOf_lt_length_iff.mpr hm.1
      simp only [if_pos h]
      rw [if_neg (by omega), if_neg (by omega)]
      simp [-List.getD_eq_getElem?_getD, lx, dIdx_row hrr, dIdx_wth xx, ix_c1, tIndex_names hm.1]
    · simp only [if_neg h]
      by_cases h1 : j < 0
      · rw [if_pos h1]; rfl
      · rw [if_neg h1, if_pos (by omega)]; rfl
end
end Com

set_option Elab.async false
set_option linter.all false
set_option maxRecDepth 100000
set_option maxHeartbeats 4000000
/-! k07: askings of places; asked. -/
namespace Com
open PySem PySem.Spec L2 DL
section
variable {names : List Str} {rows : List Rw}
theorem law_whole_int {i : Int} : g_law_whole [.int i] = .ok (.fz (.bool true)) := by
  refine Okx.eq (okx_run ?_)
  have h1 : isiD "int" (.int i) = true := rfl
  have h2 : isiD "bool" (.int i) = false := rfl
  simp [b_law_whole, envF, h1, h2]
theorem is_place_ok {m : Plc} : g_is_place [m.D] = .ok (.fz (.bool true)) := by
  refine Okx.eq (okx_run ?_)
  have h : ∀ z ∈ (["number", "rank", "dense", "back", "on", "pieces"] : List Str), dInC (.str z) (.tuple [.str "number", .str "rank", .str "dense", .str "back", .str "on", .str "pieces"]) = some (.fz (.bool true)) := by
    intro z hz
    simp only [List.mem_cons, List.not_mem_nil, or_false] at hz
    rcases hz with rfl | rfl | rfl | rfl | rfl | rfl <;> first | rfl | kernel_rfl
  cases m <;> simp [b_is_place, envF, Plc.D, ix_c, h]
def Plc.nms : Plc → List Str
  | back z _ => [z]
  | on_ z _ => [z]
  | _ => []
theorem names_in_ok {m : Plc} : g_names_in [m.D] = .ok (.ow (m.nms.map .str)) := by
  obtain ⟨c1, c2, c3, c4, c5, c6, c7, c8, c9, c10, c11, c12, c13, c14, c15, c16, c17, c18, c19, c20⟩ := eq_c
  have n1 : dEq (.str "number") (.str "pieces") = some (.fz (.bool false)) := by first | rfl | kernel_rfl
  have n2 : dEq (.str "rank") (.str "pieces") = some (.fz (.bool false)) := by first | rfl | kernel_rfl
  have n3 : dEq (.str "dense") (.str "pieces") = some (.fz (.bool false)) := by first | rfl | kernel_rfl
  have cm : ∀ ds : List D, cutD ds (some 1) (some 2) = (ds.drop 1).take 1 := fun ds => cutD_mid (k := 1) (m := 2)
  refine Okx.eq (okx_run ?_)
  cases m <;> simp [b_names_in, envF, Plc.D, ix_c, n1, n2, n3, c16, c17, c18, cm, Plc.nms]
theorem need_asking_ok (T : Tab names rows) {bys : List Str} (hb : ∀ z ∈ bys, z ∈ names) {order : List (Str × Str)} (ho : ∀ p ∈ order, p.1 ∈ names) (hol : order.length ≤ 1000) {m : Plc} (hm : m.Ok names) :
    g_need_asking [tabD names rows, .tuple [.tuple (bys.map .str), .tuple (order.map dP), .none, m.D]] = .ok (.fz .none) := by
  have nn := need_names_in T (zs := order.map (·.1)) (d := .list ((order.map (·.1)).map .str)) rfl (fun z hz => by
    obtain ⟨p, hp, rfl⟩ := List.mem_map.mp hz
    exact ho p hp)
  rw [List.map_map] at nn
  simp [Function.comp_def] at nn
  have nb := need_names_in T (zs := bys) (d := .tuple (bys.map .str)) rfl hb
  have nm := need_names_in T (zs := m.nms) (d := .list (m.nms.map .str)) rfl (fun z hz => by
    cases m <;> simp [Plc.nms] at hz
    · rw [hz]; exact hm.1
    · rw [hz]; exact hm.1)
  refine Okx.eq (okx_run ?_)
  simp only [b_need_asking, pq_seq]
  simp [envF, nb]
  refine wp_compM dP (fun p => .str p.1) order ?_
  simp [nn, dIdx_dP, names_in_ok, nm]
  omega
def fillL (f : Nat → D) (line : List Nat) : Nat → List D → List D
  | 0, ds => ds
  | k + 1, ds => (fillL f line k ds).set (line.getD k 0) (f k)
theorem fillL_len {f : Nat → D} {line : List Nat} {ds : List D} : ∀ {k : Nat}, (fillL f line k ds).length = ds.length
  | 0 => rfl
  | k + 1 => by rw [fillL, List.length_set, fillL_len]
theorem fillL_all {f : Nat → D} {line : List Nat} {ds : List D} {R : D → Prop} (h : ∀ d ∈ ds, R d) (hf : ∀ k, R (f k)) : ∀ {k : Nat}, ∀ d ∈ fillL f line k ds, R d
  | 0 => h
  | k + 1 => fun d hd => by
    rw [fillL] at hd
    rcases List.mem_or_eq_of_mem_set hd with q | q
    · exact fillL_all h hf d q
    · rw [q]; exact hf k
/-- the answers of a part put in -/
def putP (names : List Str) (rows : List Rw) (order : List (Str × Str)) (m : Plc) (ds : List D) (p : List Nat) : List D :=
  fillL (fun k => dW (m.at names rows (ordT (vr rows) (osT names order) p) (grpL (vr rows) (osT names order) (ordT (vr rows) (osT names order) p) (ordT (vr rows) (osT names order) p).length) k)) (ordT (vr rows) (osT names order) p) (ordT (vr rows) (osT names order) p).length ds
def ansT (names : List Str) (rows : List Rw) (bys : List Str) (order : List (Str × Str)) (m : Plc) (i : Nat) : List D := ((partsT (keyOf names rows bys) rows.length).take i).foldl (putP names rows order m) (List.replicate rows.length .none)
theorem foldl_put_len {names : List Str} {rows : List Rw} {order : List (Str × Str)} {m : Plc} : ∀ {ps : List (List Nat)} {ds : List D}, (ps.foldl (putP names rows order m) ds).length = ds.length
  | [], _ => rfl
  | p :: ps, ds => by
    rw [List.foldl_cons, foldl_put_len]
    exact fillL_len
theorem foldl_put_all {names : List Str} {rows : List Rw} {order : List (Str × Str)} {m : Plc} : ∀ {ps : List (List Nat)} {ds : List D}, (∀ d ∈ ds, ∃ w, d = dW w) → ∀ d ∈ ps.foldl (putP names rows order m) ds, ∃ w, d = dW w
  | [], _, h => h
  | p :: ps, ds, h => by
    rw [List.foldl_cons]
    exact foldl_put_all (fillL_all h fun k => ⟨_, rfl⟩)
theorem ansT_len {bys : List Str} {order : List (Str × Str)} {m : Plc} {i : Nat} : (ansT names rows bys order m i).length = rows.length := by
  unfold ansT
  rw [foldl_put_len, List.length_replicate]
theorem ansT_dW {bys : List Str} {order : List (Str × Str)} {m : Plc} {i : Nat} : ∀ d ∈ ansT names rows bys order m i, ∃ w, d = dW w := by
  unfold ansT
  exact foldl_put_all fun d hd => ⟨none, (List.mem_replicate.mp hd).2⟩
theorem ansT_succ {bys : List Str} {order : List (Str × Str)} {m : Plc} {i : Nat} (h : i < (partsT (keyOf names rows bys) rows.length).length) : ansT names rows bys order m (i + 1) = putP names rows order m (ansT names rows bys order m i) (partsT (keyOf names rows bys) rows.length)[i] := by
  unfold ansT
  rw [List.take_succ_eq_append_getElem h, List.foldl_append]; rfl
/-- a slot that bears a list of numbers -/
def LsC (xs : List D) (c : Option Cell) : Prop := c = some (.ow xs) ∨ c = some (.fz (.list xs))
theorem asked_ok (T : Tab names rows) {bys : List Str} (hb : ∀ z ∈ bys, z ∈ names) (hbl : bys.length ≤ 1000) {order : List (Str × Str)} (hs : ∀ p ∈ order, Sok p.2) (ho : ∀ p ∈ order, p.1 ∈ names) (hol : order.length ≤ 1000) {m : Plc} (hm : m.Ok names) :
    g_asked [tabD names rows, .tuple [.tuple (bys.map .str), .tuple (order.map dP), .none, m.D]] = .ok (.ow (ansT names rows bys order m (partsT (keyOf names rows bys) rows.length).length)) := by
  have hrr := T.r200
  refine Okx.eq (okx_run ?_)
  simp only [b_asked, pq_seq]
  simp [envF, need_asking_ok T hb ho hol hm]
  refine wp_compM dR (fun _ => .none) rows ?_
  simp
  refine ⟨by omega, ?_⟩
  refine pq_forI (fun i e => ∃ k7 k8 k9 k10 k11 : Option Cell, e = [some (.fz (tabD names rows)), some (.fz (.tuple [.tuple (bys.map .str), .tuple (order.map dP), .none, m.D])), some (.fz (.tuple (bys.map .str))), some (.fz (.tuple (order.map dP))), some (.fz .none), some (.fz m.D),
    some (.ow (ansT names rows bys order m i)), k7, k8, k9, k10, k11]) ((partsT (keyOf names rows bys) rows.length).map lsD) ?_ ?_ ?_
  · simp [parts_of_ok T hb hbl]
    simp [ansT, List.map_const']
  · rintro i e ⟨k7, k8, k9, k10, k11, rfl⟩ hi
    simp at hi
    rw [List.getElem_map, ansT_succ hi]
    have hmem := List.getElem_mem hi
    generalize (partsT (keyOf names rows bys) rows.length)[i] = p at hmem
    have dl := ansT_len (names := names) (rows := rows) (bys := bys) (order := order) (m := m) (i := i)
    generalize ansT names rows bys order m i = ds at dl
    have F := parts_facts hmem
    have od := ordered_ok T hs ho hol F.2.1 F.2.2.2
    unfold putP
    have pm := ordT_perm (v := vr rows) (os := osT names order) (part := p)
    generalize ordT (vr rows) (osT names order) p = line at od pm
    have lr : ∀ r ∈ line, r < rows.length := fun r h => F.2.2.2 r (pm.mem_iff.mp h)
    have ll : line.length ≤ 200 := by rw [pm.length_eq]; omega
    have gd := groups_of_ok T ho hol lr (by omega)
    have gll := grpL_len (v := vr rows) (os := osT names order) (line := line) (n := line.length)
    have pl := fun (j : Nat) (hj : j < line.length) => placed_ok T hm lr ll hj gll
    generalize grpL (vr rows) (osT names order) line line.length = gs at gd gll pl
    simp [lsD, od, gd]
    refine pq_forI (fun j e => ∃ k9 k10 k11 : Option Cell, e = [some (.fz (tabD names rows)), some (.fz (.tuple [.tuple (bys.map .str), .tuple (order.map dP), .none, m.D])), some (.fz (.tuple (bys.map .str))), some (.fz (.tuple (order.map dP))), some (.fz .none), some (.fz m.D),
      some (.ow (fillL (fun k => dW (m.at names rows line gs k)) line j ds)), some (.fz (.list (p.map nD))), some (.fz (.list (line.map nD))), k9, k10, k11] ∧ LsC (gs.map nD) k9) (enumD (line.map nD)) ?_ ?_ ?_
    · simp [fillL, LsC]
    · rintro j e ⟨k9, k10, k11, rfl, h9⟩ hj
      have hj' : j < line.length := by simpa [enumD] using hj
      have ej : (enumD (line.map nD))[j] = .tuple [.int (j : Nat), .int (line[j] : Nat)] := by simp [enumD, nD]
      have rj := lr _ (List.getElem_mem hj')
      have ixn : ixN rows.length ((line[j] : Nat) : Int) = some line[j] := ixN_nat rj
      have fl : (fillL (fun k => dW (m.at names rows line gs k)) line j ds).length = rows.length := by rw [fillL_len]; exact dl
      rw [ej, fillL, getD_of_lt hj']
      rcases h9 with rfl | rfl
      · simp [is_place_ok, pl j hj', fl, ixn, LsC]
      · simp [is_place_ok, pl j hj', fl, ixn, LsC]
    · rintro e ⟨k9, k10, k11, rfl, h9⟩
      have : (enumD (line.map nD)).length = line.length := by simp [enumD]
      simp [this]
  · rintro e ⟨k7, k8, k9, k10, k11, rfl⟩
    simp
end
end Com

set_option Elab.async false
set_option linter.all false
set_option maxRecDepth 100000
set_option maxHeartbeats 4000000
/-! measures of a window. -/
namespace Com
open PySem PySem.Spec L2 DL
inductive Mea where
  | rows
  | count (z : Str) | sum (z : Str) | least (z : Str) | most (z : Str) | first (z : Str) | last (z : Str)
  | nth (z : Str) (k : Nat)
def Mea.D : Mea → D
  | rows => .tuple [.str "count"]
  | count z => .tuple [.str "count", .str z]
  | sum z => .tuple [.str "sum", .str z]
  | least z => .tuple [.str "least", .str z]
  | most z => .tuple [.str "most", .str z]
  | first z => .tuple [.str "first", .str z]
  | last z => .tuple [.str "last", .str z]
  | nth z k => .tuple [.str "nth", .str z, .int k]
def Mea.nms : Mea → List Str
  | rows => []
  | count z | sum z | least z | most z | first z | last z | nth z _ => [z]
def Mea.Ok (names : List Str) (m : Mea) : Prop := (∀ z ∈ m.nms, z ∈ names) ∧ (match m with | nth _ k => 1 ≤ k ∧ k ≤ 10 ^ 39 + 1 | _ => True)
def nums (ws : List (Option Int)) : List Int := ws.filterMap id
def colT (names : List Str) (rows : List Rw) (z : Str) (win : List Nat) : List (Option Int) := win.map fun r => ge (vr rows r) (names.idxOf z)
def atO? (ws : List (Option Int)) (k : Nat) : Option Int := (ws[k]?).getD none
def ifSome (ws : List (Option Int)) (f : List Int → Int) : Option Int := if nums ws = [] then none else some (f (nums ws))
def Mea.val (names : List Str) (rows : List Rw) (win : List Nat) : Mea → Option Int
  | .rows => some (win.length : Int)
  | .count z => some ((nums (colT names rows z win)).length : Int)
  | .sum z => ifSome (colT names rows z win) List.sum
  | .least z => ifSome (colT names rows z win) minI
  | .most z => ifSome (colT names rows z win) maxI
  | .first z => atO? (colT names rows z win) 0
  | .last z => atO? (colT names rows z win) (win.length - 1)
  | .nth z k => atO? (colT names rows z win) (k - 1)
section
variable {names : List Str} {rows : List Rw}
theorem intsOf_map : ∀ {ns : List Int}, intsOf (ns.map PyData.int) = some ns
  | [] => rfl
  | n :: ns => by simp [intsOf, intsOf_map (ns := ns)]
theorem bSum_ints {ns : List Int} : bSum [.list (ns.map PyData.int)] = some (.fz (.int ns.sum)) := by
  show (intsOf (ns.map PyData.int)).map _ = _
  rw [intsOf_map]; rfl
theorem bMin_ints {ns : List Int} (h : ¬ ns = []) : bMin [.list (ns.map PyData.int)] = some (.fz (.int (minI ns))) := by
  show (match intsOf (ns.map PyData.int) with
    | some (n :: ns) => some (Cell.fz (.int (minI (n :: ns))))
    | _ => none) = _
  rw [intsOf_map]
  cases ns with
  | nil => exact absurd rfl h
  | cons n ns => rfl
theorem bMax_ints {ns : List Int} (h : ¬ ns = []) : bMax [.list (ns.map PyData.int)] = some (.fz (.int (maxI ns))) := by
  show (match intsOf (ns.map PyData.int) with
    | some (n :: ns) => some (Cell.fz (.int (maxI (n :: ns))))
    | _ => none) = _
  rw [intsOf_map]
  cases ns with
  | nil => exact absurd rfl h
  | cons n ns => rfl
theorem at_place_W {ws : List (Option Int)} {i : Int} (hl : ws.length ≤ 1000) : g_at_place [.list (ws.map dW), .int i] = .ok (.fz (dW (if 0 ≤ i then atO? ws i.toNat else none))) := by
  refine Okx.eq (okx_run ?_)
  simp [b_at_place, envF]
  by_cases h : 0 ≤ i
  · simp [h]
    by_cases h2 : i < ws.length
    · have := dIdx_list_in (f := dW) (xs := ws) h h2
      simp [h2, this, atO?]
      rw [List.getElem?_eq_getElem (by omega)]; rfl
    · simp [h2, atO?]
      rw [List.getElem?_eq_none (by omega)]; rfl
  · simp [h, dW]
theorem nums_map {ws : List (Option Int)} : (ws.filter fun w => !isNone (dW w)).map dW = (nums ws).map .int := by
  induction ws with
  | nil => rfl
  | cons w ws ih =>
    unfold nums at ih ⊢
    cases w with
    | none => simpa [dW] using ih
    | some i => simpa [dW] using ih
theorem mc : dEq (.tuple [.str "count"]) (.tuple [.str "count"]) = some (.fz (.bool true)) := by first | rfl | kernel_rfl
theorem mc2 {w z : Str} (hw : Sok w) (hz : Sok z) : dEq (.tuple [.str w, .str z]) (.tuple [.str "count"]) = some (.fz (.bool false)) := by
  rw [dEq_nice ((Nice.tuple (k := 0) (.cons (nice_str hw) (.cons (nice_str hz) .nil))).mono (by omega)) ((Nice.tuple (k := 0) (.cons (nice_str (by unfold Sok; decide +kernel)) .nil)).mono (by omega))]
  simp
theorem mc3 {w z : Str} {k : Nat} (hw : Sok w) (hz : Sok z) : dEq (.tuple [.str w, .str z, .int k]) (.tuple [.str "count"]) = some (.fz (.bool false)) := by
  rw [dEq_nice ((Nice.tuple (k := 0) (.cons (nice_str hw) (.cons (nice_str hz) (.cons Nice.int .nil)))).mono (by omega)) ((Nice.tuple (k := 0) (.cons (nice_str (by unfold Sok; decide +kernel)) .nil)).mono (by omega))]
  simp
theorem meq : (∀ w ∈ (["count", "sum", "least", "most", "first", "last", "nth"] : List Str), Sok w) ∧ (∀ w ∈ (["count", "sum", "least", "most", "first", "last", "nth"] : List Str), ∀ x ∈ (["count", "sum", "least", "most", "first", "last", "nth"] : List Str), dEq (.str w) (.str x) = some (.fz (.bool (decide (w = x))))) := by
  have h : ∀ w ∈ (["count", "sum", "least", "most", "first", "last", "nth"] : List Str), Sok w := by
    intro w hw
    simp only [List.mem_cons, List.not_mem_nil, or_false] at hw
    rcases hw with rfl | rfl | rfl | rfl | rfl | rfl | rfl <;> (unfold Sok; decide +kernel)
  exact ⟨h, fun w hw x hx => eqS (h w hw) (h x hx)⟩
theorem mq_count : dEq (.str "count") (.str "first") = some (.fz (.bool false)) ∧ dEq (.str "count") (.str "last") = some (.fz (.bool false)) ∧ dEq (.str "count") (.str "nth") = some (.fz (.bool false)) ∧ dEq (.str "count") (.str "count") = some (.fz (.bool true)) := by
  refine ⟨?_, ?_, ?_, ?_⟩ <;> first | rfl | kernel_rfl
theorem mq_sum : dEq (.str "sum") (.str "first") = some (.fz (.bool false)) ∧ dEq (.str "sum") (.str "last") = some (.fz (.bool false)) ∧ dEq (.str "sum") (.str "nth") = some (.fz (.bool false)) ∧ dEq (.str "sum") (.str "count") = some (.fz (.bool false)) ∧ dEq (.str "sum") (.str "sum") = some (.fz (.bool true)) := by
  refine ⟨?_, ?_, ?_, ?_, ?_⟩ <;> first | rfl | kernel_rfl
theorem mq_least : dEq (.str "least") (.str "first") = some (.fz (.bool false)) ∧ dEq (.str "least") (.str "last") = some (.fz (.bool false)) ∧ dEq (.str "least") (.str "nth") = some (.fz (.bool false)) ∧ dEq (.str "least") (.str "count") = some (.fz (.bool false)) ∧ dEq (.str "least") (.str "sum") = some (.fz (.bool false)) ∧ dEq (.str "least") (.str "least") = some (.fz (.bool true)) := by
  refine ⟨?_, ?_, ?_, ?_, ?_, ?_⟩ <;> first | rfl | kernel_rfl
theorem mq_most : dEq (.str "most") (.str "first") = some (.fz (.bool false)) ∧ dEq (.str "most") (.str "last") = some (.fz (.bool false)) ∧ dEq (.str "most") (.str "nth") = some (.fz (.bool false)) ∧ dEq (.str "most") (.str "count") = some (.fz (.bool false)) ∧ dEq (.str "most") (.str "sum") = some (.fz (.bool false)) ∧ dEq (.str "most") (.str "least") = some (.fz (.bool false)) := by
  refine ⟨?_, ?_, ?_, ?_, ?_, ?_⟩ <;> first | rfl | kernel_rfl
theorem mq_first : dEq (.str "first") (.str "first") = some (.fz (.bool true)) := by first | rfl | kernel_rfl
theorem mq_last : dEq (.str "last") (.str "first") = some (.fz (.bool false)) ∧ dEq (.str "last") (.str "last") = some (.fz (.bool true)) := by
  refine ⟨?_, ?_⟩ <;> first | rfl | kernel_rfl
theorem mq_nth : dEq (.str "nth") (.str "first") = some (.fz (.bool false)) ∧ dEq (.str "nth") (.str "last") = some (.fz (.bool false)) ∧ dEq (.str "nth") (.str "nth") = some (.fz (.bool true)) := by
  refine ⟨?_, ?_, ?_⟩ <;> first | rfl | kernel_rfl
theorem measured_ok (T : Tab names rows) {m : Mea} (hm : m.Ok names) {win : List Nat} (hr : ∀ r ∈ win, r < rows.length) (hl : win.length ≤ 1000) :
    g_measured [tabD names rows, .list (win.map nD), m.D] = .ok (.fz (dW (m.val names rows win))) := by
  obtain ⟨ms, me⟩ := meq
  have col : ∀ (z : Str) (m3 : D) (e : DL.LE) (P : Cell → DL.LE → Prop), z ∈ names → dIdx m3 (.int 1) = some (.fz (.str z)) → P (.ow ((colT names rows z win).map dW)) [some (.fz (tabD names rows)), some (.fz (.list (win.map nD))), some (.fz m3), none, none, none, none] →
      Wp (mComp [5] (setD 5) (DL.ret true) (bnd (op2 dIdx (bnd (op2 dIdx (bnd (op2 dIdx (pk 0) (DL.ret (.int 1))) dat) (pk 5)) dat) (bnd (mCall g_column (mCons (fr 0) (mCons (bnd (op2 dIdx (pk 2) (DL.ret (.int 1))) dat) mNil))) dat)) dat) (mIter (pk 1)) [some (.fz (tabD names rows)), some (.fz (.list (win.map nD))), some (.fz m3), none, none, none, none]) P noX := by
    intro z m3 e P hz hi hP
    refine wp_compM nD (fun r => dW (ge (vr rows r) (names.idxOf z))) win ?_
    simp
    refine ⟨by omega, ?_, fun r hrw => ?_⟩
    · have e2 : win.map (fun r => dW (ge (vr rows r) (names.idxOf z))) = (colT names rows z win).map dW := by simp [colT]
      rw [e2]; exact hP
    · have xx : names.idxOf z < (vr rows r).length := by rw [T.wide (hr r hrw)]; exact List.idxOf_lt_length_iff.mpr hz
      simp [nD, dIdx_row (hr r hrw), hi, column_in T hz, dIdx_wth xx]
  refine Okx.eq (okx_run ?_)
  simp only [b_measured, pq_seq, envF]
  have colL : ∀ z, (colT names rows z win).length = win.length := fun z => by simp [colT]
  have numF : ∀ (z : Str) (P : Cell → DL.LE → Prop) (m3 : D), P (.ow ((nums (colT names rows z win)).map .int)) [some (.fz (tabD names rows)), some (.fz (.list (win.map nD))), some (.fz m3), some (.ow ((colT names rows z win).map dW)), none, none, none] →
      Wp (mComp [6] (setD 6) (bnd (op2 dIsNot (pk 6) (DL.ret .none)) asB) (fr 6) (mIter (pk 3)) [some (.fz (tabD names rows)), some (.fz (.list (win.map nD))), some (.fz m3), some (.ow ((colT names rows z win).map dW)), none, none, none]) P noX := by
    intro z P m3 hP
    refine wp_comp dW dW (fun w => !isNone (dW w)) (colT names rows z win) ?_
    simp
    refine ⟨by rw [colL]; omega, ?_⟩
    rw [nums_map]
    exact hP
  have nn : ∀ z, dEq (.list ((nums (colT names rows z win)).map .int)) (.list []) = some (.fz (.bool (decide (nums (colT names rows z win) = [])))) := fun z => by
    rw [dEq_nil (fun d hd => by
      obtain ⟨i, _, rfl⟩ := List.mem_map.mp hd
      exact Nice.int)]
    cases nums (colT names rows z win) <;> simp
  cases m with
  | rows => simp [Mea.D, mc, Mea.val, dW]
  | first z =>
    have hz := hm.1 z (by simp [Mea.nms])
    have c0 := mc2 (w := "first") (z := z) (ms _ (by simp)) (T.sok z hz)
    simp [Mea.D, c0]
    refine col z _ [] _ hz (ix_c1 _ _ _) ?_
    simp [ix_c, mq_first]
    rw [at_place_W (by rw [colL]; exact hl)]
    simp [Mea.val]
  | last z =>
    have hz := hm.1 z (by simp [Mea.nms])
    have c0 := mc2 (w := "last") (z := z) (ms _ (by simp)) (T.sok z hz)
    simp [Mea.D, c0]
    refine col z _ [] _ hz (ix_c1 _ _ _) ?_
    simp [ix_c, mq_last]
    rw [at_place_W (by rw [colL]; exact hl)]
    rw [okc_ok, colL]
    have e : (if (0 : Int) ≤ (win.length : Int) - 1 then atO? (colT names rows z win) ((win.length : Int) - 1).toNat else none) = atO? (colT names rows z win) (win.length - 1) := by
      by_cases h : (0 : Int) ≤ (win.length : Int) - 1
      · rw [if_pos h, show ((win.length : Int) - 1).toNat = win.length - 1 by omega]
      · rw [if_neg h]
        unfold atO?
        rw [List.getElem?_eq_none (by rw [colL]; omega)]; rfl
    rw [e]; rfl
  | nth z k =>
    have hz := hm.1 z (by simp [Mea.nms])
    have c0 := mc3 (w := "nth") (z := z) (k := k) (ms _ (by simp)) (T.sok z hz)
    simp [Mea.D, c0]
    refine col z _ [] _ hz (ix_c1 _ _ _) ?_
    simp [ix_c, ix_c2, mq_nth]
    rw [at_place_W (by rw [colL]; exact hl)]
    have hk := hm.2
    simp at hk
    rw [okc_ok, if_pos (by omega), show ((k : Int) - 1).toNat = k - 1 by omega]
    rfl
  | count z =>
    have hz := hm.1 z (by simp [Mea.nms])
    have c0 := mc2 (w := "count") (z := z) (ms _ (by simp)) (T.sok z hz)
    simp [Mea.D, c0]
    refine col z _ [] _ hz (ix_c1 _ _ _) ?_
    simp [ix_c, mq_count]
    refine numF z _ _ ?_
    simp [ix_c, mq_count, Mea.val, dW]
  | sum z =>
    have hz := hm.1 z (by simp [Mea.nms])
    have c0 := mc2 (w := "sum") (z := z) (ms _ (by simp)) (T.sok z hz)
    simp [Mea.D, c0]
    refine col z _ [] _ hz (ix_c1 _ _ _) ?_
    simp [ix_c, mq_sum]
    refine numF z _ _ ?_
    simp [ix_c, mq_sum, nn, Mea.val, ifSome]
    split
    · simp [dW]
    · simp [dW, bSum_ints]
  | least z =>
    have hz := hm.1 z (by simp [Mea.nms])
    have c0 := mc2 (w := "least") (z := z) (ms _ (by simp)) (T.sok z hz)
    simp [Mea.D, c0]
    refine col z _ [] _ hz (ix_c1 _ _ _) ?_
    simp [ix_c, mq_least]
    refine numF z _ _ ?_
    simp [ix_c, mq_least, nn, Mea.val, ifSome]
    split
    · simp [dW]
    · rename_i h
      rw [bMin_ints h]
      simp [dW]
  | most z =>
    have hz := hm.1 z (by simp [Mea.nms])
    have c0 := mc2 (w := "most") (z := z) (ms _ (by simp)) (T.sok z hz)
    simp [Mea.D, c0]
    refine col z _ [] _ hz (ix_c1 _ _ _) ?_
    simp [ix_c, mq_most]
    refine numF z _ _ ?_
    simp [ix_c, mq_most, nn, Mea.val, ifSome]
    split
    · simp [dW]
    · rename_i h
      rw [bMax_ints h]
      simp [dW]
end
end Com

set_option Elab.async false
set_option linter.all false
set_option maxRecDepth 100000
set_option maxHeartbeats 4000000
/-! windows by rows and by ties. -/
namespace Com
open PySem PySem.Spec L2 DL
inductive Bnd where
  | first | here | last
  | back (k : Nat) | on_ (k : Nat)
def Bnd.D : Bnd → D
  | first => .tuple [.str "first"]
  | here => .tuple [.str "here"]
  | last => .tuple [.str "last"]
  | back k => .tuple [.str "back", .int k]
  | on_ k => .tuple [.str "on", .int k]
def Bnd.off : Bnd → Int
  | back k => -k
  | on_ k => k
  | _ => 0
inductive But where
  | none | row | ties | group
def But.S : But → Str
  | none => "none"
  | row => "row"
  | ties => "ties"
  | group => "group"
theorem bw : ∀ w ∈ (["first", "here", "last", "back", "on", "rows", "ties", "worths", "none", "row", "group"] : List Str), Sok w := by
  intro w hw
  simp only [List.mem_cons, List.not_mem_nil, or_false] at hw
  rcases hw with rfl | rfl | rfl | rfl | rfl | rfl | rfl | rfl | rfl | rfl | rfl <;> (unfold Sok; decide +kernel)
theorem off_ok {b : Bnd} : g_off [b.D] = .ok (.fz (.int b.off)) := by
  have e1 : dEq (.str "first") (.str "back") = some (.fz (.bool false)) ∧ dEq (.str "here") (.str "back") = some (.fz (.bool false)) ∧ dEq (.str "last") (.str "back") = some (.fz (.bool false)) ∧ dEq (.str "back") (.str "back") = some (.fz (.bool true)) ∧ dEq (.str "on") (.str "back") = some (.fz (.bool false)) := by
    refine ⟨?_, ?_, ?_, ?_, ?_⟩ <;> first | rfl | kernel_rfl
  have e2 : dEq (.str "first") (.str "on") = some (.fz (.bool false)) ∧ dEq (.str "here") (.str "on") = some (.fz (.bool false)) ∧ dEq (.str "last") (.str "on") = some (.fz (.bool false)) ∧ dEq (.str "on") (.str "on") = some (.fz (.bool true)) := by
    refine ⟨?_, ?_, ?_, ?_⟩ <;> first | rfl | kernel_rfl
  refine Okx.eq (okx_run ?_)
  cases b <;> simp [b_off, envF, Bnd.D, ix_c, ix_c1, e1, e2, Bnd.off]
def Bnd.isFirst : Bnd → Bool
  | first => true
  | _ => false
def Bnd.isLast : Bnd → Bool
  | last => true
  | _ => false
theorem bnd_first {b : Bnd} : ∃ w r, b.D = .tuple (.str w :: r) ∧ dEq (.str w) (.str "first") = some (.fz (.bool b.isFirst)) ∧ dEq (.str w) (.str "last") = some (.fz (.bool b.isLast)) := by
  cases b
  · exact ⟨"first", _, rfl, by first | rfl | kernel_rfl, by first | rfl | kernel_rfl⟩
  · exact ⟨"here", _, rfl, by first | rfl | kernel_rfl, by first | rfl | kernel_rfl⟩
  · exact ⟨"last", _, rfl, by first | rfl | kernel_rfl, by first | rfl | kernel_rfl⟩
  · exact ⟨"back", _, rfl, by first | rfl | kernel_rfl, by first | rfl | kernel_rfl⟩
  · exact ⟨"on", _, rfl, by first | rfl | kernel_rfl, by first | rfl | kernel_rfl⟩
def fromT (ns : List Nat) (t : Int) : Nat := (ns.filter fun (n : Nat) => decide ((n : Int) < t)).length
theorem first_from_ok {ns : List Nat} {t : Int} (hl : ns.length ≤ 1000) : g_first_from [.list (ns.map nD), .int t] = .ok (.fz (.int (fromT ns t : Nat))) := by
  refine Okx.eq (okx_run ?_)
  simp [b_first_from, envF]
  refine wp_comp nD nD (fun (n : Nat) => decide ((n : Int) < t)) ns ?_
  simp [nD]
  exact ⟨by omega, rfl⟩
/-- a frame by rows or by ties -/
structure FrT where
  ties : Bool
  b : Bnd
  e : Bnd
  but : But
def FrT.D (f : FrT) : D := .tuple [.str (if f.ties = true then "ties" else "rows"), f.b.D, f.e.D, .str f.but.S]
def FrT.first (f : FrT) (ns : List Nat) (at_ : Nat) : Nat := if f.b.isFirst = true then 0 else fromT ns ((ns.getD at_ 0 : Nat) + f.b.off)
def FrT.behind (f : FrT) (ns : List Nat) (at_ : Nat) : Nat := if f.e.isLast = true then ns.length else fromT ns ((ns.getD at_ 0 : Nat) + f.e.off + 1)
section
variable {names : List Str} {rows : List Rw}
def FrT.nums (f : FrT) (v : Nat → Rw) (os : List OP) (line : List Nat) : List Nat := if f.ties = true then grpL v os line line.length else List.range line.length
theorem nums_len {f : FrT} {v : Nat → Rw} {os : List OP} {line : List Nat} : (f.nums v os line).length = line.length := by
  unfold FrT.nums
  split
  · exact grpL_len
  · simp
theorem ends_of_ok (T : Tab names rows) {order : List (Str × Str)} (ho : ∀ p ∈ order, p.1 ∈ names) (hol : order.length ≤ 1000) {line : List Nat} (hr : ∀ r ∈ line, r < rows.length) (hl : line.length ≤ 200) {f : FrT} {i : Nat} (hi : i < line.length) :
    g_ends_of [tabD names rows, .list (line.map nD), .tuple (order.map dP), f.D, .int i] = .ok (.fz (.tuple [.int (f.first (f.nums (vr rows) (osT names order) line) i : Nat), .int (max (f.first (f.nums (vr rows) (osT names order) line) i) (f.behind (f.nums (vr rows) (osT names order) line) i) : Nat)])) := by
  have gd := groups_of_ok T ho hol hr (by omega)
  have nl := nums_len (f := f) (v := vr rows) (os := osT names order) (line := line)
  obtain ⟨w1, r1, b1, b2, b3⟩ := bnd_first (b := f.b)
  obtain ⟨w2, r2, e1, e2, e3⟩ := bnd_first (b := f.e)
  have ob := off_ok (b := f.b)
  have oe := off_ok (b := f.e)
  rw [b1] at ob
  rw [e1] at oe
  have k1 : ∀ t : Bool, dEq (.str (if t = true then "ties" else "rows")) (.str "worths") = some (.fz (.bool false)) := fun t => by cases t <;> first | rfl | kernel_rfl
  have k2 : ∀ t : Bool, dEq (.str (if t = true then "ties" else "rows")) (.str "ties") = some (.fz (.bool t)) := fun t => by cases t <;> first | rfl | kernel_rfl
  have lr : ∀ (e : DL.LE) (P : Cell → DL.LE → Prop) (fm : M (List D)), Wp (fm e) (fun ds e' => ds = [.int line.length] ∧ e' = e) noX → P (.ow ((List.range line.length).map nD)) e → Wp (mListRange fm e) P noX := by
    intro e P fm h hP
    unfold mListRange
    rw [wp_bnd]
    refine h.imp (fun ds e' hd => ?_) (fun _ h => h)
    obtain ⟨rfl, rfl⟩ := hd
    have c : sm62 (line.length : Int) = true ∧ (line.length : Int).toNat ≤ 16777216 := ⟨by simp [sm62]; omega, by omega⟩
    simp only [if_pos c, wp_ret]
    have e3 : rangeD 0 (line.length : Int).toNat = (List.range line.length).map nD := by simp [rangeD, nD, Function.comp_def]
    rw [e3]
    exact hP
  refine Okx.eq (okx_run ?_)
  simp only [b_ends_of, pq_seq, FrT.D, b1, e1]
  simp [envF, k1]
  refine lr _ _ _ (by simp) ?_
  have ixn : ∀ ns : List Nat, ns.length = line.length → dIdx (.list (ns.map nD)) (.int i) = some (.fz (.int (ns.getD i 0 : Nat))) := fun ns h => by
    rw [dIdx_list_nat (by omega : i < ns.length), getD_of_lt (by omega)]; rfl
  have ff := fun (ns : List Nat) (t : Int) (h : ns.length = line.length) => first_from_ok (ns := ns) (t := t) (by omega)
  cases ht : f.ties with
  | false =>
    have hn : f.nums (vr rows) (osT names order) line = List.range line.length := by unfold FrT.nums; rw [ht]; rfl
    rw [hn] at nl ⊢
    generalize List.range line.length = ns at nl
    have k2' := k2 false
    simp at k2'
    simp [-List.getD_eq_getElem?_getD, k2', ixn ns nl, ob, oe, ff ns _ nl, ix_c, b2, e3]
    unfold FrT.first FrT.behind
    generalize fromT ns ((ns.getD i 0 : Nat) + f.b.off) = x
    generalize fromT ns ((ns.getD i 0 : Nat) + f.e.off + 1) = y
    cases f.b.isFirst <;> cases f.e.isLast <;> simp only [nl, if_true, if_false, Bool.false_eq_true, true_and] <;> first | (split <;> omega) | (refine ⟨rfl, ?_⟩; split <;> omega) | (refine ⟨by omega, ?_⟩; split <;> omega)
  | true =>
    have hn : f.nums (vr rows) (osT names order) line = grpL (vr rows) (osT names order) line line.length := by unfold FrT.nums; rw [ht]; rfl
    rw [hn] at nl ⊢
    have k2' := k2 true
    simp at k2'
    simp [k2', gd]
    generalize grpL (vr rows) (osT names order) line line.length = ns at nl
    simp [-List.getD_eq_getElem?_getD, ixn ns nl, ob, oe, ff ns _ nl, ix_c, b2, e3]
    unfold FrT.first FrT.behind
    generalize fromT ns ((ns.getD i 0 : Nat) + f.b.off) = x
    generalize fromT ns ((ns.getD i 0 : Nat) + f.e.off + 1) = y
    cases f.b.isFirst <;> cases f.e.isLast <;> simp only [nl, if_true, if_false, Bool.false_eq_true, true_and] <;> first | (split <;> omega) | (refine ⟨rfl, ?_⟩; split <;> omega) | (refine ⟨by omega, ?_⟩; split <;> omega)
end
end Com

set_option Elab.async false
set_option linter.all false
set_option maxRecDepth 100000
set_option maxHeartbeats 4000000
/-! windows: what is left out, window_at. -/
namespace Com
open PySem PySem.Spec L2 DL
def But.out : But → Nat → Nat → Bool → Bool
  | none, _, _, _ => false
  | row, a, b, _ => decide (a = b)
  | ties, a, b, k => !decide (a = b) && k
  | group, a, b, k => decide (a = b) || k
section
variable {names : List Str} {rows : List Rw}
theorem but_c : (∀ b : But, dEq (.str b.S) (.str "none") = some (.fz (.bool (match b with | .none => true | _ => false)))) ∧ (∀ b : But, dNe (.str b.S) (.str "ties") = some (.fz (.bool (match b with | .ties => false | _ => true)))) ∧ (∀ b : But, dNe (.str b.S) (.str "row") = some (.fz (.bool (match b with | .row => false | _ => true)))) := by
  refine ⟨fun b => ?_, fun b => ?_, fun b => ?_⟩ <;> cases b <;> first | rfl | kernel_rfl
theorem left_out_ok (T : Tab names rows) {order : List (Str × Str)} (ho : ∀ p ∈ order, p.1 ∈ names) (hol : order.length ≤ 1000) {but : But} {a b : Nat} (ha : a < rows.length) (hb : b < rows.length) :
    g_left_out [tabD names rows, .tuple (order.map dP), .str but.S, .int a, .int b] = .ok (.fz (.bool (but.out a b (decide (alk (osT names order) (vr rows a) (vr rows b)))))) := by
  obtain ⟨c1, c2, c3⟩ := but_c
  have al := are_alike_ok T ho (by omega) ha hb
  refine Okx.eq (okx_run ?_)
  simp only [b_left_out, pq_seq, envF]
  by_cases h : a = b
  · subst h
    cases but <;> simp [c1, c2, c3, But.out]
  · have h2 : ¬ ((a : Int) = (b : Int)) := by omega
    cases but <;> simp [c1, c2, c3, But.out, h, h2, al]
def winT (f : FrT) (v : Nat → Rw) (os : List OP) (line : List Nat) (i : Nat) : List Nat :=
  ((line.drop (f.first (f.nums v os line) i)).take (max (f.first (f.nums v os line) i) (f.behind (f.nums v os line) i) - f.first (f.nums v os line) i)).filter fun r => !f.but.out (line.getD i 0) r (decide (alk os (v (line.getD i 0)) (v r)))
theorem window_at_ok (T : Tab names rows) {order : List (Str × Str)} (ho : ∀ p ∈ order, p.1 ∈ names) (hol : order.length ≤ 1000) {line : List Nat} (hr : ∀ r ∈ line, r < rows.length) (hl : line.length ≤ 200) {f : FrT} {i : Nat} (hi : i < line.length) :
    g_window_at [tabD names rows, .list (line.map nD), .tuple (order.map dP), f.D, .int i] = .ok (.ow ((winT f (vr rows) (osT names order) line i).map nD)) := by
  have en := ends_of_ok T ho hol hr hl (f := f) hi
  have f3 : dIdx f.D (.int 3) = some (.fz (.str f.but.S)) := by
    unfold FrT.D
    rw [dIdx_tuple]
    have := atI_nat (xs := [PyData.str (if f.ties = true then "ties" else "rows"), f.b.D, f.e.D, .str f.but.S]) (k := 3) (by simp)
    rw [show ((3 : Nat) : Int) = 3 from rfl] at this
    rw [this]; rfl
  have xi : dIdx (.list (line.map nD)) (.int i) = some (.fz (.int (line.getD i 0 : Nat))) := by
    rw [dIdx_list_nat hi, getD_of_lt hi]; rfl
  have ri : line.getD i 0 < rows.length := by rw [getD_of_lt hi]; exact hr _ (List.getElem_mem hi)
  refine Okx.eq (okx_run ?_)
  simp only [b_window_at, pq_seq]
  simp [-List.getD_eq_getElem?_getD, envF, en]
  unfold winT
  generalize f.first (f.nums (vr rows) (osT names order) line) i = F
  generalize f.behind (f.nums (vr rows) (osT names order) line) i = B
  refine wp_comp nD nD (fun r => !f.but.out (line.getD i 0) r (decide (alk (osT names order) (vr rows (line.getD i 0)) (vr rows r)))) ((line.drop F).take (max F B - F)) ?_
  have cm : cutD (line.map nD) (some (F : Int)) (some ((max F B : Nat) : Int)) = ((line.drop F).take (max F B - F)).map nD := cutM_mid
  have cm2 : cutD (line.map nD) (some (F : Int)) (some (max (F : Int) (B : Int))) = ((line.drop F).take (max F B - F)).map nD := by
    rw [show max (F : Int) (B : Int) = ((max F B : Nat) : Int) by omega]
    exact cutM_mid
  simp [-List.getD_eq_getElem?_getD, -List.map_take, -List.map_drop, cm, cm2]
  refine ⟨by omega, fun r hrr => ?_⟩
  have rr := hr r (List.mem_of_mem_drop (List.mem_of_mem_take hrr))
  have lo := left_out_ok T ho hol (but := f.but) ri rr
  simp [-List.getD_eq_getElem?_getD, f3, xi, nD, lo]
end
end Com

set_option Elab.async false
set_option linter.all false
set_option maxRecDepth 100000
set_option maxHeartbeats 4000000
/-! asked with windows; totals. -/
namespace Com
open PySem PySem.Spec L2 DL
section
variable {names : List Str} {rows : List Rw}
theorem is_place_no {m : Mea} : g_is_place [m.D] = .ok (.fz (.bool false)) := by
  refine Okx.eq (okx_run ?_)
  have h : ∀ z ∈ (["count", "sum", "least", "most", "first", "last", "nth"] : List Str), dInC (.str z) (.tuple [.str "number", .str "rank", .str "dense", .str "back", .str "on", .str "pieces"]) = some (.fz (.bool false)) := by
    intro z hz
    simp only [List.mem_cons, List.not_mem_nil, or_false] at hz
    rcases hz with rfl | rfl | rfl | rfl | rfl | rfl | rfl <;> first | rfl | kernel_rfl
  cases m <;> simp [b_is_place, envF, Mea.D, ix_c, h]
theorem names_in_mea {m : Mea} : g_names_in [m.D] = .ok (.ow (m.nms.map .str)) := by
  have n : ∀ w ∈ (["count", "sum", "least", "most", "first", "last", "nth"] : List Str), dEq (.str w) (.str "pieces") = some (.fz (.bool false)) := by
    intro z hz
    simp only [List.mem_cons, List.not_mem_nil, or_false] at hz
    rcases hz with rfl | rfl | rfl | rfl | rfl | rfl | rfl <;> first | rfl | kernel_rfl
  have cm : ∀ ds : List D, cutD ds (some 1) (some 2) = (ds.drop 1).take 1 := fun ds => cutD_mid (k := 1) (m := 2)
  refine Okx.eq (okx_run ?_)
  cases m <;> simp [b_names_in, envF, Mea.D, ix_c, n, cm, Mea.nms]
theorem frt_c : ∀ t : Bool, dEq (.str (if t = true then "ties" else "rows")) (.str "worths") = some (.fz (.bool false)) := fun t => by cases t <;> first | rfl | kernel_rfl
theorem need_frame_ok {order : List (Str × Str)} {f : FrT} : g_need_frame [.tuple (order.map dP), f.D] = .ok (.fz .none) := by
  have h := frt_c f.ties
  refine Okx.eq (okx_run ?_)
  simp [b_need_frame, envF, FrT.D, ix_c, h]
theorem need_asking_mea (T : Tab names rows) {bys : List Str} (hb : ∀ z ∈ bys, z ∈ names) {order : List (Str × Str)} (ho : ∀ p ∈ order, p.1 ∈ names) (hol : order.length ≤ 1000) {m : Mea} (hm : m.Ok names) {f : FrT} :
    g_need_asking [tabD names rows, .tuple [.tuple (bys.map .str), .tuple (order.map dP), f.D, m.D]] = .ok (.fz .none) := by
  have nn := need_names_in T (zs := order.map (·.1)) (d := .list ((order.map (·.1)).map .str)) rfl (fun z hz => by
    obtain ⟨p, hp, rfl⟩ := List.mem_map.mp hz
    exact ho p hp)
  rw [List.map_map] at nn
  simp [Function.comp_def] at nn
  have nb := need_names_in T (zs := bys) (d := .tuple (bys.map .str)) rfl hb
  have nm := need_names_in T (zs := m.nms) (d := .list (m.nms.map .str)) rfl hm.1
  have nf := need_frame_ok (order := order) (f := f)
  have fn : isNone f.D = false := rfl
  refine Okx.eq (okx_run ?_)
  simp only [b_need_asking, pq_seq]
  simp [envF, nb]
  refine wp_compM dP (fun p => .str p.1) order ?_
  simp [nn, dIdx_dP, names_in_mea, nm, fn, nf]
  omega
/-- the answers of a part put in -/
def putG (lineOf : List Nat → List Nat) (val : List Nat → Nat → Option Int) (ds : List D) (p : List Nat) : List D := fillL (fun k => dW (val p k)) (lineOf p) (lineOf p).length ds
def ansG (lineOf : List Nat → List Nat) (val : List Nat → Nat → Option Int) (n : Nat) (ps : List (List Nat)) : List D := ps.foldl (putG lineOf val) (List.replicate n .none)
theorem foldl_putG_len {lineOf : List Nat → List Nat} {val : List Nat → Nat → Option Int} : ∀ {ps : List (List Nat)} {ds : List D}, (ps.foldl (putG lineOf val) ds).length = ds.length
  | [], _ => rfl
  | p :: ps, ds => by
    rw [List.foldl_cons, foldl_putG_len]
    exact fillL_len
theorem foldl_putG_all {lineOf : List Nat → List Nat} {val : List Nat → Nat → Option Int} : ∀ {ps : List (List Nat)} {ds : List D}, (∀ d ∈ ds, ∃ w, d = dW w) → ∀ d ∈ ps.foldl (putG lineOf val) ds, ∃ w, d = dW w
  | [], _, h => h
  | p :: ps, ds, h => by
    rw [List.foldl_cons]
    exact foldl_putG_all (fillL_all h fun k => ⟨_, rfl⟩)
theorem ansG_len {lineOf : List Nat → List Nat} {val : List Nat → Nat → Option Int} {n : Nat} {ps : List (List Nat)} : (ansG lineOf val n ps).length = n := by
  unfold ansG
  rw [foldl_putG_len, List.length_replicate]
theorem ansG_dW {lineOf : List Nat → List Nat} {val : List Nat → Nat → Option Int} {n : Nat} {ps : List (List Nat)} : ∀ d ∈ ansG lineOf val n ps, ∃ w, d = dW w := foldl_putG_all fun d hd => ⟨none, (List.mem_replicate.mp hd).2⟩
abbrev valW (names : List Str) (rows : List Rw) (order : List (Str × Str)) (f : FrT) (m : Mea) (p : List Nat) (k : Nat) : Option Int := m.val names rows (winT f (vr rows) (osT names order) (ordT (vr rows) (osT names order) p) k)
theorem askedW_ok (T : Tab names rows) {bys : List Str} (hb : ∀ z ∈ bys, z ∈ names) (hbl : bys.length ≤ 1000) {order : List (Str × Str)} (hs : ∀ p ∈ order, Sok p.2) (ho : ∀ p ∈ order, p.1 ∈ names) (hol : order.length ≤ 1000) {m : Mea} (hm : m.Ok names) {f : FrT} :
    g_asked [tabD names rows, .tuple [.tuple (bys.map .str), .tuple (order.map dP), f.D, m.D]] = .ok (.ow (ansG (ordT (vr rows) (osT names order)) (valW names rows order f m) rows.length (partsT (keyOf names rows bys) rows.length))) := by
  have hrr := T.r200
  refine Okx.eq (okx_run ?_)
  simp only [b_asked, pq_seq]
  simp [envF, need_asking_mea T hb ho hol hm]
  refine wp_compM dR (fun _ => .none) rows ?_
  simp
  refine ⟨by omega, ?_⟩
  refine pq_forI (fun i e => ∃ k7 k8 k9 k10 k11 : Option Cell, e = [some (.fz (tabD names rows)), some (.fz (.tuple [.tuple (bys.map .str), .tuple (order.map dP), f.D, m.D])), some (.fz (.tuple (bys.map .str))), some (.fz (.tuple (order.map dP))), some (.fz f.D), some (.fz m.D),
    some (.ow (ansG (ordT (vr rows) (osT names order)) (valW names rows order f m) rows.length ((partsT (keyOf names rows bys) rows.length).take i))), k7, k8, k9, k10, k11]) ((partsT (keyOf names rows bys) rows.length).map lsD) ?_ ?_ ?_
  · simp [parts_of_ok T hb hbl]
    simp [ansG, List.map_const']
  · rintro i e ⟨k7, k8, k9, k10, k11, rfl⟩ hi
    simp at hi
    have st : ansG (ordT (vr rows) (osT names order)) (valW names rows order f m) rows.length ((partsT (keyOf names rows bys) rows.length).take (i + 1)) = putG (ordT (vr rows) (osT names order)) (valW names rows order f m) (ansG (ordT (vr rows) (osT names order)) (valW names rows order f m) rows.length ((partsT (keyOf names rows bys) rows.length).take i)) (partsT (keyOf names rows bys) rows.length)[i] := by
      unfold ansG
      rw [List.take_succ_eq_append_getElem hi, List.foldl_append]; rfl
    rw [List.getElem_map, st]
    have hmem := List.getElem_mem hi
    have dl := ansG_len (lineOf := ordT (vr rows) (osT names order)) (val := valW names rows order f m) (n := rows.length) (ps := (partsT (keyOf names rows bys) rows.length).take i)
    generalize ansG (ordT (vr rows) (osT names order)) (valW names rows order f m) rows.length ((partsT (keyOf names rows bys) rows.length).take i) = ds at dl
    generalize (partsT (keyOf names rows bys) rows.length)[i] = p at hmem
    have F := parts_facts hmem
    have od := ordered_ok T hs ho hol F.2.1 F.2.2.2
    unfold putG valW
    have pm := ordT_perm (v := vr rows) (os := osT names order) (part := p)
    generalize ordT (vr rows) (osT names order) p = line at od pm
    have lr : ∀ r ∈ line, r < rows.length := fun r h => F.2.2.2 r (pm.mem_iff.mp h)
    have ll : line.length ≤ 200 := by rw [pm.length_eq]; omega
    have gd := groups_of_ok T ho hol lr (by omega)
    have wn := fun (j : Nat) (hj : j < line.length) => window_at_ok T ho hol lr ll (f := f) hj
    have ms := fun (j : Nat) => measured_ok T hm (win := winT f (vr rows) (osT names order) line j) (fun r h => lr r (List.mem_of_mem_drop (List.mem_of_mem_take (List.mem_filter.mp h).1))) (by
      have h1 := List.length_filter_le (fun r => !f.but.out (line.getD j 0) r (decide (alk (osT names order) (vr rows (line.getD j 0)) (vr rows r)))) ((line.drop (f.first (f.nums (vr rows) (osT names order) line) j)).take (max (f.first (f.nums (vr rows) (osT names order) line) j) (f.behind (f.nums (vr rows) (osT names order) line) j) - f.first (f.nums (vr rows) (osT names order) line) j))
      rw [List.length_take, List.length_drop] at h1
      unfold winT
      omega)
    simp [lsD, od, gd]
    refine pq_forI (fun j e => ∃ k9 k10 k11 : Option Cell, e = [some (.fz (tabD names rows)), some (.fz (.tuple [.tuple (bys.map .str), .tuple (order.map dP), f.D, m.D])), some (.fz (.tuple (bys.map .str))), some (.fz (.tuple (order.map dP))), some (.fz f.D), some (.fz m.D),
      some (.ow (fillL (fun k => dW (m.val names rows (winT f (vr rows) (osT names order) line k))) line j ds)), some (.fz (.list (p.map nD))), some (.fz (.list (line.map nD))), k9, k10, k11]) (enumD (line.map nD)) ?_ ?_ ?_
    · simp [fillL]
    · rintro j e ⟨k9, k10, k11, rfl⟩ hj
      have hj' : j < line.length := by simpa [enumD] using hj
      have ej : (enumD (line.map nD))[j] = .tuple [.int (j : Nat), .int (line[j] : Nat)] := by simp [enumD, nD]
      have rj := lr _ (List.getElem_mem hj')
      have ixn : ixN rows.length ((line[j] : Nat) : Int) = some line[j] := ixN_nat rj
      have fl : (fillL (fun k => dW (m.val names rows (winT f (vr rows) (osT names order) line k))) line j ds).length = rows.length := by rw [fillL_len]; exact dl
      rw [ej, fillL, getD_of_lt hj']
      simp [is_place_no, wn j hj', ms j, fl, ixn]
    · rintro e ⟨k9, k10, k11, rfl⟩
      have : (enumD (line.map nD)).length = line.length := by simp [enumD]
      simp [this]
  · rintro e ⟨k7, k8, k9, k10, k11, rfl⟩
    simp
end
end Com

set_option Elab.async false
set_option linter.all false
set_option maxRecDepth 100000
set_option maxHeartbeats 4000000
/-! frames of any kind, in plain Lean. -/
namespace Com
open PySem PySem.Spec L2 DL
/-! ### counting, stretches -/
def ctN (n : Nat) (p : Nat → Bool) : Nat := ((List.range n).filter p).length
/-- where p holds is a beginning -/
def Beg (n : Nat) (p : Nat → Bool) : Prop := ∀ i j, i < j → j < n → p j = true → p i = true
theorem ctN_le {n : Nat} {p : Nat → Bool} : ctN n p ≤ n := by
  have := List.length_filter_le p (List.range n)
  unfold ctN; simpa using this
theorem ctN_succ {n : Nat} {p : Nat → Bool} : ctN (n + 1) p = ctN n p + (if p n = true then 1 else 0) := by
  unfold ctN
  rw [List.range_succ, List.filter_append, List.length_append]
  by_cases h : p n = true <;> simp [h]
theorem beg_at {p : Nat → Bool} : ∀ {n : Nat}, Beg n p → ∀ j, j < n → p j = decide (j < ctN n p)
  | 0, _, j, h => by omega
  | n + 1, hb, j, h => by
    have ih := beg_at (n := n) (p := p) (fun a b h1 h2 => hb a b h1 (by omega))
    have le := ctN_le (n := n) (p := p)
    rw [ctN_succ]
    by_cases q : p n = true
    · have all : ∀ i, i < n → p i = true := fun i hi => hb i n hi (by omega) q
      have full : ctN n p = n := by
        unfold ctN
        rw [List.filter_eq_self.mpr (fun i hi => all i (by simpa using hi))]; simp
      rw [if_pos q, full]
      by_cases e : j = n
      · subst e; simp [q]
      · rw [all j (by omega)]; simp; omega
    · rw [if_neg q, Nat.add_zero]
      by_cases e : j = n
      · subst e
        have : p j = false := by simpa using q
        rw [this]; simp; omega
      · exact ih j (by omega)
theorem filter_between {F B : Nat} : ∀ n : Nat, (List.range n).filter (fun j => !decide (j < F) && decide (j < B)) = List.range' F (min B n - F)
  | 0 => by simp
  | n + 1 => by
    rw [List.range_succ, List.filter_append, filter_between n]
    by_cases h1 : n < F
    · have : min B (n + 1) - F = min B n - F := by omega
      rw [this]; simp [h1]
    · by_cases h2 : n < B
      · have e : min B (n + 1) - F = (min B n - F) + 1 := by omega
        rw [e, List.range'_concat]
        have : F + 1 * (min B n - F) = n := by omega
        rw [this]; simp [h1, h2]
      · have : min B (n + 1) - F = min B n - F := by omega
        rw [this]; simp [h2]
theorem cut_range {α : Type} {line : List α} {d : α} {F k : Nat} (h : F + k ≤ line.length) : (line.drop F).take k = (List.range' F k).map fun j => line.getD j d := by
  apply List.ext_getElem?
  intro i
  by_cases hi : i < k
  · rw [List.getElem?_take_of_lt hi, List.getElem?_drop, List.getElem?_map, List.getElem?_range' hi]
    simp [List.getD_eq_getElem?_getD]
    rw [List.getElem?_eq_getElem (by omega)]; rfl
  · rw [List.getElem?_eq_none (by simp; omega), List.getElem?_eq_none (by simp; omega)]
theorem stretch {α : Type} {line : List α} {d : α} {ah up : Nat → Bool} (h1 : Beg line.length ah) (h2 : Beg line.length up) :
    (line.drop (ctN line.length ah)).take (max (ctN line.length ah) (ctN line.length up) - ctN line.length ah) = ((List.range line.length).filter fun j => !ah j && up j).map fun j => line.getD j d := by
  have l1 := ctN_le (n := line.length) (p := ah)
  have l2 := ctN_le (n := line.length) (p := up)
  have e : (List.range line.length).filter (fun j => !ah j && up j) = (List.range line.length).filter (fun j => !decide (j < ctN line.length ah) && decide (j < ctN line.length up)) := by
    refine List.filter_congr fun j hj => ?_
    have hj := List.mem_range.mp hj
    rw [beg_at h1 j hj, beg_at h2 j hj]
  rw [e, filter_between, cut_range (d := d) (by omega)]
  have : max (ctN line.length ah) (ctN line.length up) - ctN line.length ah = min (ctN line.length up) line.length - ctN line.length ah := by omega
  rw [this]
theorem as_range {α : Type} (l : List α) (d : α) : l = (List.range l.length).map fun j => l.getD j d := by
  apply List.ext_getElem
  · simp
  · intro i h1 h2
    simp [List.getD_eq_getElem?_getD, h1]
theorem filter_ct {α : Type} {l : List α} {d : α} {q : α → Bool} : (l.filter q).length = ctN l.length fun j => q (l.getD j d) := by
  unfold ctN
  conv => lhs; rw [as_range l d]
  rw [List.filter_map, List.length_map]; rfl
/-! ### frames -/
/-- ahead of, in an order's way -/
def bef (up : Bool) (a b : Option Int) : Bool := if up = true then oLt a b else oLt b a
theorem bef_trans {up : Bool} {a b c : Option Int} (h : bef up a b = true) (k : bef up b c = true) : bef up a c = true := by
  unfold bef at *
  cases up <;> simp at h k ⊢
  · exact oLt_trans k h
  · exact oLt_trans h k
/-- x no later than y, y ahead of e -/
theorem bef_le {up : Bool} {x y e : Option Int} (h : bef up y x = false) (k : bef up y e = true) : bef up x e = true := by
  unfold bef at *
  cases up <;> cases x <;> cases y <;> cases e <;> simp [oLt] at h k ⊢ <;> omega
theorem bef_ge {up : Bool} {x y e : Option Int} (h : bef up y x = false) (k : bef up e y = false) : bef up e x = false := by
  unfold bef at *
  cases up <;> cases x <;> cases y <;> cases e <;> simp [oLt] at h k ⊢ <;> omega
structure FrW where
  b : Bnd
  e : Bnd
  but : But
inductive Fr where
  | t (f : FrT)
  | w (f : FrW)
def FrW.D (f : FrW) : D := .tuple [.str "worths", f.b.D, f.e.D, .str f.but.S]
def Fr.D : Fr → D
  | .t f => f.D
  | .w f => f.D
def Fr.but : Fr → But
  | .t f => f.but
  | .w f => f.but
def edgeT (up : Bool) (here : Option Int) (b : Bnd) : Option Int := here.map fun h => h + (if up = true then b.off else -b.off)
def Fr.ah (f : Fr) (v : Nat → Rw) (os : List OP) (line : List Nat) (i j : Nat) : Bool := match f with
  | .t f => !f.b.isFirst && decide (((f.nums v os line).getD j 0 : Int) < ((f.nums v os line).getD i 0 : Nat) + f.b.off)
  | .w f => !f.b.isFirst && bef (os.headD (0, true)).2 (ge (v (line.getD j 0)) (os.headD (0, true)).1) (edgeT (os.headD (0, true)).2 (ge (v (line.getD i 0)) (os.headD (0, true)).1) f.b)
def Fr.upto (f : Fr) (v : Nat → Rw) (os : List OP) (line : List Nat) (i j : Nat) : Bool := match f with
  | .t f => f.e.isLast || decide (((f.nums v os line).getD j 0 : Int) < ((f.nums v os line).getD i 0 : Nat) + f.e.off + 1)
  | .w f => f.e.isLast || !bef (os.headD (0, true)).2 (edgeT (os.headD (0, true)).2 (ge (v (line.getD i 0)) (os.headD (0, true)).1) f.e) (ge (v (line.getD j 0)) (os.headD (0, true)).1)
def Fr.first (f : Fr) (v : Nat → Rw) (os : List OP) (line : List Nat) (i : Nat) : Nat := ctN line.length (f.ah v os line i)
def Fr.behind (f : Fr) (v : Nat → Rw) (os : List OP) (line : List Nat) (i : Nat) : Nat := ctN line.length (f.upto v os line i)
/-- the places of a window, before any is left out -/
def Fr.pls (f : Fr) (v : Nat → Rw) (os : List OP) (line : List Nat) (i : Nat) : List Nat := (List.range line.length).filter fun j => !f.ah v os line i j && f.upto v os line i j
def Fr.win (f : Fr) (v : Nat → Rw) (os : List OP) (line : List Nat) (i : Nat) : List Nat := ((f.pls v os line i).map fun j => line.getD j 0).filter fun r => !f.but.out (line.getD i 0) r (decide (alk os (v (line.getD i 0)) (v r)))
def Fr.Suits {α : Type} (order : List α) : Fr → Prop
  | .t _ => True
  | .w _ => order.length = 1
section
variable {v : Nat → Rw} {os : List OP} {line : List Nat}
theorem nums_mono {f : FrT} {i j : Nat} (h : i < j) (hj : j < line.length) : (f.nums v os line).getD i 0 ≤ (f.nums v os line).getD j 0 := by
  unfold FrT.nums
  split
  · rw [getD_of_lt (by rw [grpL_len]; omega), getD_of_lt (by rw [grpL_len]; omega)]
    simp only [grpL, List.getElem_map, List.getElem_range]
    exact grpN_mono (by omega)
  · rw [getD_of_lt (by simp; omega), getD_of_lt (by simp; omega)]
    simp; omega
theorem Lx.one {p : OP} {a b : Nat} (h : Lx v [p] a b) : bef p.2 (ge (v b) p.1) (ge (v a) p.1) = false := by
  rcases h with h | ⟨h, _⟩
  · rw [ahd] at h
    unfold bef
    split at h
    · rename_i e
      rw [e]; cases p.2 <;> simp [oLt_irr]
    · cases hp : p.2 with
      | true => rw [hp] at h; simp at h; simp [oLt_asym h]
      | false => rw [hp] at h; simp at h; simp [h]
  · have e := h p (by simp)
    unfold bef
    rw [e]; cases p.2 <;> simp [oLt_irr]
theorem beg_ah {f : Fr} (hs : f.Suits os) (lx : line.Pairwise (Lx v os)) (i : Nat) : Beg line.length (f.ah v os line i) := by
  intro a b hab hb h
  cases f with
  | t f =>
    simp only [Fr.ah, Bool.and_eq_true, decide_eq_true_eq] at h ⊢
    have := nums_mono (f := f) (v := v) (os := os) (line := line) hab hb
    exact ⟨h.1, by omega⟩
  | w f =>
    obtain ⟨p, rfl⟩ : ∃ p, os = [p] := by
      match os, hs with
      | [p], _ => exact ⟨p, rfl⟩
    simp only [Fr.ah, Bool.and_eq_true, List.headD_cons] at h ⊢
    refine ⟨h.1, bef_le (y := ge (v (line.getD b 0)) p.1) ?_ h.2⟩
    rw [getD_of_lt hb, getD_of_lt (by omega : a < line.length)]
    exact (List.pairwise_iff_getElem.mp lx a b (by omega) hb hab).one
theorem beg_upto {f : Fr} (hs : f.Suits os) (lx : line.Pairwise (Lx v os)) (i : Nat) : Beg line.length (f.upto v os line i) := by
  intro a b hab hb h
  cases f with
  | t f =>
    simp only [Fr.upto, Bool.or_eq_true, decide_eq_true_eq] at h ⊢
    have := nums_mono (f := f) (v := v) (os := os) (line := line) hab hb
    rcases h with h | h
    · exact .inl h
    · exact .inr (by omega)
  | w f =>
    obtain ⟨p, rfl⟩ : ∃ p, os = [p] := by
      match os, hs with
      | [p], _ => exact ⟨p, rfl⟩
    simp only [Fr.upto, Bool.or_eq_true, List.headD_cons, Bool.not_eq_true'] at h ⊢
    rcases h with h | h
    · exact .inl h
    · refine .inr (bef_ge (y := ge (v (line.getD b 0)) p.1) ?_ h)
      rw [getD_of_lt hb, getD_of_lt (by omega : a < line.length)]
      exact (List.pairwise_iff_getElem.mp lx a b (by omega) hb hab).one
/-- the window is a stretch of the line, less what is left out -/
theorem win_cut {f : Fr} (hs : f.Suits os) (lx : line.Pairwise (Lx v os)) (i : Nat) : f.win v os line i = ((line.drop (f.first v os line i)).take (max (f.first v os line i) (f.behind v os line i) - f.first v os line i)).filter fun r => !f.but.out (line.getD i 0) r (decide (alk os (v (line.getD i 0)) (v r))) := by
  unfold Fr.win Fr.pls Fr.first Fr.behind
  rw [stretch (d := 0) (beg_ah hs lx i) (beg_upto hs lx i)]
theorem first_t {f : FrT} {i : Nat} : f.first (f.nums v os line) i = (Fr.t f).first v os line i := by
  have nl := nums_len (f := f) (v := v) (os := os) (line := line)
  unfold FrT.first Fr.first
  cases hb : f.b.isFirst with
  | true =>
    have : (Fr.t f).ah v os line i = fun _ => false := by funext j; simp [Fr.ah, hb]
    simp only [this, ctN, if_true]
    rw [List.filter_eq_nil_iff.mpr (fun _ _ => by simp)]; rfl
  | false =>
    simp only [Bool.false_eq_true, if_false]
    unfold fromT
    rw [filter_ct (d := 0), nl]
    unfold ctN
    congr 2
    funext j
    simp only [Fr.ah, hb, Bool.not_false, Bool.true_and]
theorem behind_t {f : FrT} {i : Nat} : f.behind (f.nums v os line) i = (Fr.t f).behind v os line i := by
  have nl := nums_len (f := f) (v := v) (os := os) (line := line)
  unfold FrT.behind Fr.behind
  cases hb : f.e.isLast with
  | true =>
    have : (Fr.t f).upto v os line i = fun _ => true := by funext j; simp [Fr.upto, hb]
    simp only [this, ctN, if_true, nl]
    rw [List.filter_eq_self.mpr (fun _ _ => rfl), List.length_range]
  | false =>
    simp only [Bool.false_eq_true, if_false]
    unfold fromT
    rw [filter_ct (d := 0), nl]
    unfold ctN
    congr 2
    funext j
    simp only [Fr.upto, hb, Bool.false_or]
end
end Com

set_option Elab.async false
set_option linter.all false
set_option maxRecDepth 100000
set_option maxHeartbeats 4000000
/-! windows of any frame: far_worth, worth_ends, ends_of, window_at. -/
namespace Com
open PySem PySem.Spec L2 DL
section
variable {names : List Str} {rows : List Rw}
theorem way_c : dEq (.str "up") (.str "up") = some (.fz (.bool true)) ∧ dEq (.str "down") (.str "up") = some (.fz (.bool false)) ∧ dEq (.str "up") (.str "down") = some (.fz (.bool false)) ∧ dEq (.str "down") (.str "down") = some (.fz (.bool true)) := by
  refine ⟨?_, ?_, ?_, ?_⟩ <;> first | rfl | kernel_rfl
theorem far_worth_ok {h : Int} {way : Str} (hw : way = "up" ∨ way = "down") {b : Bnd} : g_far_worth [.int h, .str way, b.D] = .ok (.fz (.int (h + (if decide (way = ("up" : Str)) = true then b.off else -b.off)))) := by
  obtain ⟨c1, c2, c3, c4⟩ := way_c
  have ne : (("down" : Str) = "up") = False := by simp; decide
  refine Okx.eq (okx_run ?_)
  rcases hw with rfl | rfl
  · simp [b_far_worth, envF, off_ok, c3]
  · simp [b_far_worth, envF, off_ok, c4, ne]
theorem lt_rk {a b : Option Int} : dLtD (rkD a) (rkD b) = some (.fz (.bool (oLt a b))) ∧ dLeD (rkD a) (rkD b) = some (.fz (.bool (!oLt b a))) ∧ dGtD (rkD a) (rkD b) = some (.fz (.bool (oLt b a))) ∧ dGeD (rkD a) (rkD b) = some (.fz (.bool (!oLt a b))) := by
  have c : ∀ a b : Option Int, cmpOk (rkD a) (rkD b) = true := fun a b => by
    cases a <;> cases b <;> simp [cmpOk, rkD, PySem.W.alike, PySem.W.alikeAll, isNone, PyData.depth, PyData.depthAll]
  have e1 : dLtD (rkD a) (rkD b) = if cmpOk (rkD a) (rkD b) = true then some (.fz (.bool (PySem.W.dataLt (rkD a) (rkD b)))) else none := by cases a <;> cases b <;> rfl
  have e2 : dLeD (rkD a) (rkD b) = if cmpOk (rkD a) (rkD b) = true then some (.fz (.bool (!PySem.W.dataLt (rkD b) (rkD a)))) else none := by cases a <;> cases b <;> rfl
  have e3 : dGtD (rkD a) (rkD b) = if cmpOk (rkD a) (rkD b) = true then some (.fz (.bool (PySem.W.dataLt (rkD b) (rkD a)))) else none := by cases a <;> cases b <;> rfl
  have e4 : dGeD (rkD a) (rkD b) = if cmpOk (rkD a) (rkD b) = true then some (.fz (.bool (!PySem.W.dataLt (rkD a) (rkD b)))) else none := by cases a <;> cases b <;> rfl
  refine ⟨?_, ?_, ?_, ?_⟩
  · rw [e1, if_pos (c _ _), dataLt_rk]
  · rw [e2, if_pos (c _ _), dataLt_rk]
  · rw [e3, if_pos (c _ _), dataLt_rk]
  · rw [e4, if_pos (c _ _), dataLt_rk]
theorem bnd_fl {b : Bnd} : ∃ w r, b.D = .tuple (.str w :: r) ∧ dNotInC (.str w) (.tuple [.str "first", .str "last"]) = some (.fz (.bool (!b.isFirst && !b.isLast))) := by
  cases b
  · exact ⟨"first", _, rfl, by first | rfl | kernel_rfl⟩
  · exact ⟨"here", _, rfl, by first | rfl | kernel_rfl⟩
  · exact ⟨"last", _, rfl, by first | rfl | kernel_rfl⟩
  · exact ⟨"back", _, rfl, by first | rfl | kernel_rfl⟩
  · exact ⟨"on", _, rfl, by first | rfl | kernel_rfl⟩
/-- the pair of places for a bound -/
def endP (up : Bool) (ws : List (Option Int)) (edge : Option Int) : D := .tuple [.int ((ws.filter fun w => bef up w edge).length : Nat), .int ((ws.filter fun w => !bef up edge w).length : Nat)]
theorem worth_ends_ok (T : Tab names rows) {z way : Str} (hz : z ∈ names) (hw : way = "up" ∨ way = "down") {line : List Nat} (hr : ∀ r ∈ line, r < rows.length) (hl : line.length ≤ 200) {f : FrW} {i : Nat} (hi : i < line.length) :
    g_worth_ends [tabD names rows, .list (line.map nD), .tuple [dP (z, way)], f.D, .int i] = .ok (.fz (.tuple [.int ((line.filter fun r => bef (decide (way = ("up" : Str))) (ge (vr rows r) (names.idxOf z)) (edgeT (decide (way = ("up" : Str))) (ge (vr rows (line.getD i 0)) (names.idxOf z)) f.b)).length : Nat),
      .int ((line.filter fun r => !bef (decide (way = ("up" : Str))) (edgeT (decide (way = ("up" : Str))) (ge (vr rows (line.getD i 0)) (names.idxOf z)) f.e) (ge (vr rows r) (names.idxOf z))).length : Nat)])) := by
  obtain ⟨c1, c2, c3, c4⟩ := way_c
  have ne : (("down" : Str) = "up") = False := by simp; decide
  have xi : dIdx (.list (line.map nD)) (.int i) = some (.fz (nD (line.getD i 0))) := by
    rw [dIdx_list_nat hi, getD_of_lt hi]
  have ri : line.getD i 0 < rows.length := by rw [getD_of_lt hi]; exact hr _ (List.getElem_mem hi)
  have cf : cutD [PyData.str "worths", f.b.D, f.e.D, .str f.but.S] (some 1) (some 3) = [f.b.D, f.e.D] := by
    have := cutD_mid (ds := [PyData.str "worths", f.b.D, f.e.D, .str f.but.S]) (k := 1) (m := 3)
    exact this
  generalize hup : decide (way = ("up" : Str)) = up
  generalize hhere : ge (vr rows (line.getD i 0)) (names.idxOf z) = here
  have wh : g_worth [tabD names rows, nD (line.getD i 0), .str z] = .ok (.fz (dW here)) := by rw [← hhere]; exact worth_in T ri hz
  refine Okx.eq (okx_run ?_)
  simp only [b_worth_ends, pq_seq]
  simp [envF, ix_c, dP]
  refine wp_compM nD (fun r => rkD (ge (vr rows r) (names.idxOf z))) line ?_
  simp
  refine ⟨by omega, ?_, fun r hrr => by simp [nD, worth_in T (hr r hrr) hz, rank_of_ok]⟩
  generalize hws : line.map (fun r => ge (vr rows r) (names.idxOf z)) = ws
  have ews : line.map (fun r => rkD (ge (vr rows r) (names.idxOf z))) = ws.map rkD := by rw [← hws, List.map_map]; rfl
  have wl : ws.length = line.length := by rw [← hws]; simp
  have f1 : ∀ ed, (line.filter fun r => bef up (ge (vr rows r) (names.idxOf z)) ed).length = (ws.filter fun w => bef up w ed).length := fun ed => by
    rw [← hws, List.filter_map, List.length_map]; rfl
  have f2 : ∀ ed, (line.filter fun r => !bef up ed (ge (vr rows r) (names.idxOf z))).length = (ws.filter fun w => !bef up ed w).length := fun ed => by
    rw [← hws, List.filter_map, List.length_map]; rfl
  rw [ews, f1, f2]
  simp [-List.getD_eq_getElem?_getD, xi, wh, FrW.D, cf]
  refine pq_forI (fun n e => ∃ k10 k11 : Option Cell, e = [some (.fz (tabD names rows)), some (.fz (.list (line.map nD))), some (.fz (.tuple [.tuple [.str z, .str way]])), some (.fz (.tuple [.str "worths", f.b.D, f.e.D, .str f.but.S])), some (.fz (.int i)), some (.fz (.str z)), some (.fz (.str way)),
    some (.ow (ws.map rkD)), some (.fz (dW here)), some (.ow (([f.b, f.e].take n).map fun b => endP up ws (edgeT up here b))), k10, k11, none, none]) ([f.b, f.e].map Bnd.D) ?_ ?_ ?_
  · simp [cf]
  · rintro n e ⟨k10, k11, rfl⟩ hn
    have hn' : n < [f.b, f.e].length := by simpa using hn
    rw [List.getElem_map, List.take_succ_eq_append_getElem hn', List.map_append, List.map_singleton]
    have hlen : (([f.b, f.e].take n).map fun b => endP up ws (edgeT up here b)).length ≤ 2 := by simp; omega
    generalize (([f.b, f.e].take n).map fun b => endP up ws (edgeT up here b)) = acc at hlen
    generalize [f.b, f.e][n] = b
    refine ⟨_, rfl, ?_⟩
    refine pq_step (fun e => e = [some (.fz (tabD names rows)), some (.fz (.list (line.map nD))), some (.fz (.tuple [.tuple [.str z, .str way]])), some (.fz (.tuple [.str "worths", f.b.D, f.e.D, .str f.but.S])), some (.fz (.int i)), some (.fz (.str z)), some (.fz (.str way)),
      some (.ow (ws.map rkD)), some (.fz (dW here)), some (.ow acc), some (.fz b.D), some (.fz (rkD here)), none, none]) ?_ ?_
    · simp [rank_of_ok]
    · rintro e rfl
      refine pq_step (fun e => e = [some (.fz (tabD names rows)), some (.fz (.list (line.map nD))), some (.fz (.tuple [.tuple [.str z, .str way]])), some (.fz (.tuple [.str "worths", f.b.D, f.e.D, .str f.but.S])), some (.fz (.int i)), some (.fz (.str z)), some (.fz (.str way)),
        some (.ow (ws.map rkD)), some (.fz (dW here)), some (.ow acc), some (.fz b.D), some (.fz (rkD (edgeT up here b))), none, none]) ?_ ?_
      · obtain ⟨w, r, eb, nb⟩ := bnd_fl (b := b)
        cases here with
        | none => simp [dW, edgeT]
        | some h =>
          have fw := far_worth_ok (h := h) hw (b := b)
          have rk : g_rank_of [.int (h + (if up = true then b.off else -b.off))] = .ok (.fz (rkD (some (h + (if up = true then b.off else -b.off))))) := rank_of_ok (w := some _)
          rw [hup] at fw
          have o0 : (!b.isFirst && !b.isLast) = false → (if up = true then b.off else -b.off) = 0 := fun q => by
            cases b <;> simp [Bnd.isFirst, Bnd.isLast] at q <;> simp [Bnd.off]
          have dWs : dW (some h) = .int h := rfl
          rw [eb] at fw
          simp [dWs, eb, ix_c, nb]
          cases q : (!b.isFirst && !b.isLast) with
          | true => simp at q; simp [q, fw, rk, edgeT, eb]
          | false =>
            have := o0 q
            simp at q
            by_cases h1 : b.isFirst = true
            · simp [h1, edgeT, this, eb]
            · simp at h1; simp [h1, q h1, edgeT, this, eb]
      · rintro e rfl
        generalize edgeT up here b = ed
        have comp : ∀ (g : D → D → Option Cell) (q : Option Int → Bool) (P : Cell → DL.LE → Prop) (k9 : Option Cell), (∀ a b, g (rkD a) (rkD b) = some (.fz (.bool (q a)))) → True := fun _ _ _ _ _ => trivial
        have wlen : ws.length ≤ 1000 := by omega
        have rd : ∀ (w : Option Int) , True := fun _ => trivial
        rcases hw with rfl | rfl
        · have hu : up = true := by rw [← hup]; decide
          subst hu
          simp [c1]
          refine wp_comp rkD rkD (fun w => oLt w ed) ws ?_
          simp [lt_rk]
          refine ⟨by omega, ?_⟩
          refine wp_comp rkD rkD (fun w => !oLt ed w) ws ?_
          simp [lt_rk]
          refine ⟨by omega, by omega, ?_⟩
          simp [endP, bef]
        · have hu : up = false := by rw [← hup]; decide
          subst hu
          simp [c2]
          refine wp_comp rkD rkD (fun w => oLt ed w) ws ?_
          simp [lt_rk]
          refine ⟨by omega, ?_⟩
          refine wp_comp rkD rkD (fun w => !oLt w ed) ws ?_
          simp [lt_rk]
          refine ⟨by omega, by omega, ?_⟩
          simp [endP, bef]
  · rintro e ⟨k10, k11, rfl⟩
    simp [endP, dIdx_0, dIdx_1, ix_c, ix_c1]
end
end Com

set_option Elab.async false
set_option linter.all false
set_option maxRecDepth 100000
set_option maxHeartbeats 4000000
/-! totals; measures drawn. -/
namespace Com
open PySem PySem.Spec L2 DL
section
variable {names : List Str} {rows : List Rw}
def totD (names : List Str) (rows : List Rw) (bys : List Str) (ms : List Mea) (p : List Nat) : D := .tuple [.tuple ((keyOf names rows bys (p.getD 0 0)).map dW), .tuple (ms.map fun m => dW (m.val names rows p))]
theorem totals_ok (T : Tab names rows) {bys : List Str} (hb : ∀ z ∈ bys, z ∈ names) (hbl : bys.length ≤ 1000) {ms : List Mea} (hm : ∀ m ∈ ms, m.Ok names) (hml : ms.length ≤ 1000) :
    g_totals [tabD names rows, .tuple (bys.map .str), .list (ms.map Mea.D)] = .ok (.ow ((partsT (keyOf names rows bys) rows.length).map (totD names rows bys ms))) := by
  have hrr := T.r200
  have nb := need_names_in T (zs := bys) (d := .tuple (bys.map .str)) rfl hb
  refine Okx.eq (okx_run ?_)
  simp only [b_totals, pq_seq]
  simp [envF, nb]
  refine pq_forI (fun i e => ∃ k3 : Option Cell, e = [some (.fz (tabD names rows)), some (.fz (.tuple (bys.map .str))), some (.fz (.list (ms.map Mea.D))), k3, none, none, none, none]) (ms.map Mea.D) ?_ ?_ ?_
  · simp
  · rintro i e ⟨k3, rfl⟩ hi
    simp at hi
    rw [List.getElem_map]
    have hmm := hm _ (List.getElem_mem hi)
    have nm := need_names_in T (zs := ms[i].nms) (d := .list (ms[i].nms.map .str)) rfl hmm.1
    simp [names_in_mea, nm]
  · rintro e ⟨k3, rfl⟩
    simp
    refine pq_forI (fun i e => ∃ k3 k5 k6 : Option Cell, e = [some (.fz (tabD names rows)), some (.fz (.tuple (bys.map .str))), some (.fz (.list (ms.map Mea.D))), k3, some (.ow (((partsT (keyOf names rows bys) rows.length).take i).map (totD names rows bys ms))), k5, k6, none]) ((partsT (keyOf names rows bys) rows.length).map lsD) ?_ ?_ ?_
    · simp [parts_of_ok T hb hbl]
    · rintro i e ⟨k3, k5, k6, rfl⟩ hi
      simp at hi
      have gl := (grp_ok (keyOf names rows bys) rows.length).len
      have pl : (partsT (keyOf names rows bys) rows.length).length ≤ rows.length := by simpa [partsT] using gl
      rw [List.getElem_map, List.take_succ_eq_append_getElem hi, List.map_append]
      have hmem := List.getElem_mem hi
      generalize (partsT (keyOf names rows bys) rows.length)[i] = p at hmem
      have F := parts_facts hmem
      have p0 : 0 < p.length := List.length_pos_iff.mpr F.1
      have r0 : p.getD 0 0 < rows.length := by rw [getD_of_lt p0]; exact F.2.2.2 _ (List.getElem_mem p0)
      have x0 : dIdx (lsD p) (.int 0) = some (.fz (nD (p.getD 0 0))) := by
        have := dIdx_list_nat (f := nD) (xs := p) p0
        rw [getD_of_lt p0]
        exact this
      simp [-List.getD_eq_getElem?_getD]
      refine wp_compM PyData.str (fun z => dW (ge (vr rows (p.getD 0 0)) (names.idxOf z))) bys ?_
      simp [-List.getD_eq_getElem?_getD]
      refine ⟨by omega, ?_, fun z hz => ?_⟩
      · refine wp_compM Mea.D (fun m => dW (m.val names rows p)) ms ?_
        simp [-List.getD_eq_getElem?_getD]
        refine ⟨by omega, ⟨by omega, ?_⟩, fun m hmm => ?_⟩
        · simp [-List.getD_eq_getElem?_getD, totD, keyOf, Function.comp_def]
        · have := measured_ok T (hm m hmm) F.2.2.2 (by omega)
          unfold lsD
          simp [this]
      · have w := worth_in T r0 (hb z hz)
        simp [-List.getD_eq_getElem?_getD, x0, nD, w]
    · rintro e ⟨k3, k5, k6, rfl⟩
      simp
theorem law_a_measure_ok {hn : 1 ≤ names.length} (hl : names.length ≤ 100) {pick : Int} (h0 : 0 ≤ pick) (h1 : pick < 10000000) :
    Okx (g_law_a_measure [.tuple (names.map .str), .int pick]) (fun c => ∃ m : Mea, c = .fz m.D ∧ m.Ok names) noX := by
  have g2 := mod_in (n := pick / 9) (m := names.length) (by omega)
  have ix := dIdx_tuple (ds := names.map PyData.str) (i := pick / 9 % names.length)
  rw [atI_in g2.1 (by simpa using g2.2)] at ix
  have zn : names[(pick / 9 % names.length).toNat]'(by have := g2; omega) ∈ names := List.getElem_mem _
  simp at ix
  generalize names[(pick / 9 % names.length).toNat]'(by have := g2; omega) = z at ix zn
  have gk := mod_in (n := pick / 6000) (m := 3) (by omega)
  have ga := mod_in (n := pick / 100) (m := 3) (by omega)
  have gb := mod_in (n := pick / 100) (m := 60) (by omega)
  obtain ⟨d, hd, ed⟩ := dIdx_mem (ds := [PyData.int (pick / 100 % 3), .int (pick / 100 % 60), .int (10 ^ 39)]) gk.1 gk.2
  obtain ⟨k, rfl, hk⟩ : ∃ k : Nat, d = .int k ∧ k ≤ 10 ^ 39 := by
    simp at hd
    rcases hd with rfl | rfl | rfl
    · exact ⟨(pick / 100 % 3).toNat, by congr 1; omega, by omega⟩
    · exact ⟨(pick / 100 % 60).toNat, by congr 1; omega, by omega⟩
    · exact ⟨10 ^ 39, rfl, Nat.le_refl _⟩
  have gm := mod_in (n := pick) (m := 9) (by omega)
  obtain ⟨d, hd, ed2⟩ := dIdx_mem (ds := [Mea.D .rows, Mea.D (.count z), Mea.D (.sum z), Mea.D (.least z), Mea.D (.most z), Mea.D (.first z), Mea.D (.last z), Mea.D (.nth z (1 + k)), Mea.D (.sum z)]) gm.1 gm.2
  have one : ∀ w ∈ [z], w ∈ names := fun w hw => by simp at hw; rw [hw]; exact zn
  obtain ⟨m, rfl, hm⟩ : ∃ m : Mea, d = m.D ∧ m.Ok names := by
    simp at hd
    rcases hd with rfl | rfl | rfl | rfl | rfl | rfl | rfl | rfl | rfl
    · exact ⟨.rows, rfl, fun w hw => by simp [Mea.nms] at hw, trivial⟩
    · exact ⟨.count z, rfl, one, trivial⟩
    · exact ⟨.sum z, rfl, one, trivial⟩
    · exact ⟨.least z, rfl, one, trivial⟩
    · exact ⟨.most z, rfl, one, trivial⟩
    · exact ⟨.first z, rfl, one, trivial⟩
    · exact ⟨.last z, rfl, one, trivial⟩
    · exact ⟨.nth z (1 + k), rfl, one, by show 1 ≤ 1 + k ∧ 1 + k ≤ 10 ^ 39 + 1; omega⟩
    · exact ⟨.sum z, rfl, one, trivial⟩
  refine okx_run ?_
  simp [b_law_a_measure, envF, ix]
  simp at ed
  simp [ed]
  have ed3 : dIdx (.list [.tuple [.str "count"], .tuple [.str "count", .str z], .tuple [.str "sum", .str z], .tuple [.str "least", .str z], .tuple [.str "most", .str z], .tuple [.str "first", .str z], .tuple [.str "last", .str z], .tuple [.str "nth", .str z, .int ((1 + k : Nat) : Int)], .tuple [.str "sum", .str z]]) (.int (pick % 9)) = some (.fz m.D) := ed2
  rw [Int.natCast_add] at ed3
  refine ⟨by decide, by omega, by decide, by decide, by rw [sizeLine_eq]; omega, ?_⟩
  rw [show ((1 : Nat) : Int) = 1 from rfl] at ed3
  rw [ed3]
  simp
  exact ⟨m, rfl, hm⟩
end
end Com

set_option Elab.async false
set_option linter.all false
set_option maxRecDepth 100000
set_option maxHeartbeats 4000000
/-! whole parts: orders change nothing; parts come to all rows. -/
namespace Com
open PySem PySem.Spec L2 DL
theorem minI_spec : ∀ {ns : List Int}, ns ≠ [] → minI ns ∈ ns ∧ ∀ y ∈ ns, minI ns ≤ y
  | [], h => absurd rfl h
  | [x], _ => by simp [minI]
  | x :: y :: r, _ => by
    obtain ⟨h1, h2⟩ := minI_spec (ns := y :: r) (by simp)
    show min x (minI (y :: r)) ∈ _ ∧ _
    refine ⟨?_, fun z hz => ?_⟩
    · rcases Int.le_total x (minI (y :: r)) with q | q
      · rw [Int.min_eq_left q]; exact List.mem_cons_self
      · rw [Int.min_eq_right q]; exact List.mem_cons_of_mem _ h1
    · show min x (minI (y :: r)) ≤ z
      rcases List.mem_cons.mp hz with e | e
      · rw [e]; exact Int.min_le_left _ _
      · exact Int.le_trans (Int.min_le_right _ _) (h2 z e)
theorem maxI_spec : ∀ {ns : List Int}, ns ≠ [] → maxI ns ∈ ns ∧ ∀ y ∈ ns, y ≤ maxI ns
  | [], h => absurd rfl h
  | [x], _ => by simp [maxI]
  | x :: y :: r, _ => by
    obtain ⟨h1, h2⟩ := maxI_spec (ns := y :: r) (by simp)
    show max x (maxI (y :: r)) ∈ _ ∧ _
    refine ⟨?_, fun z hz => ?_⟩
    · rcases Int.le_total x (maxI (y :: r)) with q | q
      · rw [Int.max_eq_right q]; exact List.mem_cons_of_mem _ h1
      · rw [Int.max_eq_left q]; exact List.mem_cons_self
    · show z ≤ max x (maxI (y :: r))
      rcases List.mem_cons.mp hz with e | e
      · rw [e]; exact Int.le_max_left _ _
      · exact Int.le_trans (h2 z e) (Int.le_max_right _ _)
theorem minI_perm {xs ys : List Int} (h : xs.Perm ys) : minI xs = minI ys := by
  by_cases e : xs = []
  · subst e
    rw [List.nil_perm.mp h]
  · have e2 : ys ≠ [] := fun z => by subst z; exact e (List.perm_nil.mp h)
    obtain ⟨a1, a2⟩ := minI_spec e
    obtain ⟨b1, b2⟩ := minI_spec e2
    have c1 := a2 _ (h.mem_iff.mpr b1)
    have c2 := b2 _ (h.mem_iff.mp a1)
    omega
theorem maxI_perm {xs ys : List Int} (h : xs.Perm ys) : maxI xs = maxI ys := by
  by_cases e : xs = []
  · subst e
    rw [List.nil_perm.mp h]
  · have e2 : ys ≠ [] := fun z => by subst z; exact e (List.perm_nil.mp h)
    obtain ⟨a1, a2⟩ := maxI_spec e
    obtain ⟨b1, b2⟩ := maxI_spec e2
    have c1 := a2 _ (h.mem_iff.mpr b1)
    have c2 := b2 _ (h.mem_iff.mp a1)
    omega
theorem sum_perm {xs ys : List Int} (h : xs.Perm ys) : xs.sum = ys.sum := by
  induction h with
  | nil => rfl
  | cons x _ ih => simp [ih]
  | swap x y l => simp; omega
  | trans _ _ ih1 ih2 => rw [ih1, ih2]
theorem nums_perm {xs ys : List (Option Int)} (h : xs.Perm ys) : (nums xs).Perm (nums ys) := h.filterMap _
theorem ifSome_perm {xs ys : List (Option Int)} (h : xs.Perm ys) {f : List Int → Int} (hf : ∀ {a b : List Int}, a.Perm b → f a = f b) : ifSome xs f = ifSome ys f := by
  unfold ifSome
  have p := nums_perm h
  by_cases e : nums xs = []
  · rw [if_pos e, if_pos (by rw [e] at p; exact List.nil_perm.mp p)]
  · rw [if_neg e, if_neg (fun z => e (by rw [z] at p; exact List.perm_nil.mp p)), hf p]
/-- the place counts -/
def Mea.pos : Mea → Bool
  | .first _ => true
  | .last _ => true
  | .nth _ _ => true
  | _ => false
theorem Mea.val_perm {names : List Str} {rows : List Rw} {m : Mea} {p q : List Nat} (h : p.Perm q) (hm : m.pos = false) : m.val names rows p = m.val names rows q := by
  have c : ∀ z, (colT names rows z p).Perm (colT names rows z q) := fun z => h.map _
  cases m with
  | rows => simp only [Mea.val]; rw [h.length_eq]
  | count z => simp only [Mea.val]; rw [(nums_perm (c z)).length_eq]
  | sum z => simp only [Mea.val]; exact ifSome_perm (c z) sum_perm
  | least z => simp only [Mea.val]; exact ifSome_perm (c z) minI_perm
  | most z => simp only [Mea.val]; exact ifSome_perm (c z) maxI_perm
  | first z => cases hm
  | last z => cases hm
  | nth z k => cases hm
theorem addP_flat {k : Rw} {r : Nat} : ∀ {gs : Gs}, ((addP k r gs).map (·.2)).flatten.Perm ((gs.map (·.2)).flatten ++ [r])
  | [] => by simp [addP]
  | (d, vs) :: g => by
    unfold addP
    split
    · simp only [List.map_cons, List.flatten_cons, List.append_assoc]
      exact List.Perm.append_left _ List.perm_append_comm
    · simp only [List.map_cons, List.flatten_cons, List.append_assoc]
      exact List.Perm.append_left _ addP_flat
theorem parts_flat (key : Nat → Rw) : ∀ n, (partsT key n).flatten.Perm (List.range n)
  | 0 => by simp [partsT, grp]
  | n + 1 => by
    rw [List.range_succ]
    exact addP_flat.trans ((parts_flat key n).append_right _)
theorem parts_one : ∀ n, partsT (fun _ => ([] : Rw)) (n + 1) = [List.range (n + 1)]
  | 0 => rfl
  | n + 1 => by
    have ih := parts_one n
    unfold partsT at ih ⊢
    have g1 : ∃ d vs, grp (fun _ => ([] : Rw)) (n + 1) = [(d, vs)] := by
      cases hg : grp (fun _ => ([] : Rw)) (n + 1) with
      | nil => rw [hg] at ih; simp at ih
      | cons a l =>
        rw [hg] at ih
        simp at ih
        obtain ⟨_, rfl⟩ := ih
        exact ⟨a.1, a.2, rfl⟩
    obtain ⟨d, vs, g1⟩ := g1
    have G := grp_ok (fun _ => ([] : Rw)) (n + 1)
    rw [g1] at ih
    simp at ih
    have hd : d = [] := by
      obtain ⟨a, _, _, b⟩ := G.each (d, vs) (by rw [g1]; simp)
      obtain ⟨x, hx⟩ := List.exists_mem_of_ne_nil _ a
      exact (b x hx).2.symm
    show (addP [] (n + 1) (grp (fun _ => ([] : Rw)) (n + 1))).map (·.2) = _
    rw [g1, hd]
    simp [addP, ih, List.range_succ]
theorem fillL_out {f : Nat → D} {line : List Nat} {ds : List D} {r : Nat} : ∀ {k : Nat}, k ≤ line.length → r ∉ line → (fillL f line k ds)[r]? = ds[r]?
  | 0, _, _ => rfl
  | k + 1, h, hr => by
    rw [fillL, List.getElem?_set_ne, fillL_out (by omega) hr]
    rw [getD_of_lt (by omega : k < line.length)]
    exact fun z => hr (by rw [← z]; exact List.getElem_mem _)
theorem fillL_in {f : Nat → D} {d : D} {line : List Nat} {ds : List D} {r : Nat} (hd : r < ds.length) : ∀ {k : Nat}, (∀ j, j < k → f j = d) → k ≤ line.length → r ∈ line.take k → (fillL f line k ds)[r]? = some d
  | 0, _, _, h => by simp at h
  | k + 1, hf, hk, h => by
    rw [fillL, hf k (by omega), getD_of_lt (by omega : k < line.length)]
    by_cases e : line[k] = r
    · rw [e, List.getElem?_set_self (by rw [fillL_len]; exact hd)]
    · rw [List.getElem?_set_ne e]
      rw [List.take_succ_eq_append_getElem (by omega : k < line.length), List.mem_append] at h
      rcases h with h | h
      · exact fillL_in hd (fun j hj => hf j (by omega)) (by omega) h
      · simp at h; exact absurd h.symm e
theorem foldl_putG_out {lineOf : List Nat → List Nat} {val : List Nat → Nat → Option Int} {r : Nat} (hl : ∀ p, (lineOf p).Perm p) : ∀ {ps : List (List Nat)} {ds : List D}, (∀ p ∈ ps, r ∉ p) → (ps.foldl (putG lineOf val) ds)[r]? = ds[r]?
  | [], _, _ => rfl
  | p :: ps, ds, h => by
    rw [List.foldl_cons, foldl_putG_out hl fun q hq => h q (by simp [hq])]
    exact fillL_out (Nat.le_refl _) fun z => h p (by simp) ((hl p).mem_iff.mp z)
theorem foldl_putG_in {lineOf : List Nat → List Nat} {val : List Nat → Nat → Option Int} {r : Nat} {w : Option Int} {p : List Nat} (hl : ∀ p, (lineOf p).Perm p) (hv : ∀ j, j < (lineOf p).length → val p j = w) (hr : r ∈ p) : ∀ {ps : List (List Nat)} {ds : List D}, r < ds.length → p ∈ ps → (∀ q ∈ ps, r ∈ q → q = p) → (ps.foldl (putG lineOf val) ds)[r]? = some (dW w)
  | [], _, _, h, _ => by cases h
  | q :: ps, ds, hd, hp, hu => by
    rw [List.foldl_cons]
    by_cases hmem : p ∈ ps
    · exact foldl_putG_in hl hv hr (by unfold putG; rw [fillL_len]; exact hd) hmem fun q' hq' => hu q' (by simp [hq'])
    · have e : q = p := by
        rcases List.mem_cons.mp hp with z | z
        · exact z.symm
        · exact absurd z hmem
      subst e
      rw [foldl_putG_out hl fun q' hq' hrq => hmem (by rw [← hu q' (by simp [hq']) hrq]; exact hq')]
      exact fillL_in hd (fun j hj => by rw [hv j hj]) (Nat.le_refl _) (by rw [List.take_length]; exact (hl q).mem_iff.mpr hr)
theorem ansG_at {lineOf : List Nat → List Nat} {val : List Nat → Nat → Option Int} {key : Nat → Rw} {n r : Nat} {w : Option Int} {p : List Nat} (hl : ∀ p, (lineOf p).Perm p) (hp : p ∈ partsT key n) (hr : r ∈ p) (hv : ∀ j, j < (lineOf p).length → val p j = w) : (ansG lineOf val n (partsT key n))[r]? = some (dW w) := by
  unfold ansG
  refine foldl_putG_in hl hv hr ?_ hp fun q hq h => parts_uniq hq hp h hr
  rw [List.length_replicate]
  exact (parts_facts hp).2.2.2 r hr
end Com

set_option Elab.async false
set_option linter.all false
set_option maxRecDepth 100000
set_option maxHeartbeats 4000000
/-! windows of any frame: ends_of, window_at. -/
namespace Com
open PySem PySem.Spec L2 DL
section
variable {names : List Str} {rows : List Rw}
theorem osT_len {order : List (Str × Str)} : (osT names order).length = order.length := by simp [osT]
theorem ends_F_ok (T : Tab names rows) {order : List (Str × Str)} (hw : ∀ p ∈ order, WayOk p) (ho : ∀ p ∈ order, p.1 ∈ names) (hol : order.length ≤ 1000) {line : List Nat} (hr : ∀ r ∈ line, r < rows.length) (hl : line.length ≤ 200) {f : Fr} (hs : f.Suits order) {i : Nat} (hi : i < line.length) :
    g_ends_of [tabD names rows, .list (line.map nD), .tuple (order.map dP), f.D, .int i] = .ok (.fz (.tuple [.int (f.first (vr rows) (osT names order) line i : Nat), .int (max (f.first (vr rows) (osT names order) line i) (f.behind (vr rows) (osT names order) line i) : Nat)])) := by
  cases f with
  | t f =>
    have := ends_of_ok T ho hol hr hl (f := f) hi
    rw [first_t, behind_t] at this
    exact this
  | w f =>
    obtain ⟨⟨z, way⟩, rfl⟩ : ∃ p, order = [p] := by
      match order, hs with
      | [p], _ => exact ⟨p, rfl⟩
    have hz := ho (z, way) (by simp)
    have hway := hw (z, way) (by simp)
    have we := worth_ends_ok T hz hway hr hl (f := f) hi
    have k1 : dEq (.str "worths") (.str "worths") = some (.fz (.bool true)) := by first | rfl | kernel_rfl
    obtain ⟨w1, r1, b1, b2, b3⟩ := bnd_first (b := f.b)
    obtain ⟨w2, r2, e1, e2, e3⟩ := bnd_first (b := f.e)
    have fF : (Fr.w f).first (vr rows) (osT names [(z, way)]) line i = if f.b.isFirst = true then 0 else (line.filter fun r => bef (decide (way = ("up" : Str))) (ge (vr rows r) (names.idxOf z)) (edgeT (decide (way = ("up" : Str))) (ge (vr rows (line.getD i 0)) (names.idxOf z)) f.b)).length := by
      unfold Fr.first
      split
      · rename_i h
        have : (Fr.w f).ah (vr rows) (osT names [(z, way)]) line i = fun _ => false := by funext j; simp [Fr.ah, h]
        rw [this]; unfold ctN
        rw [List.filter_eq_nil_iff.mpr (fun _ _ => by simp)]; rfl
      · rename_i h
        have h' : f.b.isFirst = false := by simpa using h
        rw [filter_ct (d := 0)]
        unfold ctN
        congr 2
        funext j
        simp only [Fr.ah, h', Bool.not_false, Bool.true_and]; rfl
    have fB : (Fr.w f).behind (vr rows) (osT names [(z, way)]) line i = if f.e.isLast = true then line.length else (line.filter fun r => !bef (decide (way = ("up" : Str))) (edgeT (decide (way = ("up" : Str))) (ge (vr rows (line.getD i 0)) (names.idxOf z)) f.e) (ge (vr rows r) (names.idxOf z))).length := by
      unfold Fr.behind
      split
      · rename_i h
        have : (Fr.w f).upto (vr rows) (osT names [(z, way)]) line i = fun _ => true := by funext j; simp [Fr.upto, h]
        rw [this]; unfold ctN
        rw [List.filter_eq_self.mpr (fun _ _ => rfl), List.length_range]
      · rename_i h
        have h' : f.e.isLast = false := by simpa using h
        rw [filter_ct (d := 0)]
        unfold ctN
        congr 2
        funext j
        simp only [Fr.upto, h', Bool.false_or]; rfl
    rw [fF, fB]
    generalize (line.filter fun r => bef (decide (way = ("up" : Str))) (ge (vr rows r) (names.idxOf z)) (edgeT (decide (way = ("up" : Str))) (ge (vr rows (line.getD i 0)) (names.idxOf z)) f.b)).length = x at we
    generalize (line.filter fun r => !bef (decide (way = ("up" : Str))) (edgeT (decide (way = ("up" : Str))) (ge (vr rows (line.getD i 0)) (names.idxOf z)) f.e) (ge (vr rows r) (names.idxOf z))).length = y at we
    refine Okx.eq (okx_run ?_)
    simp only [b_ends_of, pq_seq, Fr.D, List.map_cons, List.map_nil]
    simp only [FrW.D, b1, e1] at we ⊢
    simp [envF, k1, we]
    cases h1 : f.b.isFirst <;> cases h2 : f.e.isLast <;> simp [h1, h2, b2, e3, ix_c] <;> first | (split <;> omega) | (intro hh; first | omega | (rw [hh]; rfl))
theorem window_at_F (T : Tab names rows) {order : List (Str × Str)} (hw : ∀ p ∈ order, WayOk p) (ho : ∀ p ∈ order, p.1 ∈ names) (hol : order.length ≤ 1000) {line : List Nat} (hr : ∀ r ∈ line, r < rows.length) (hl : line.length ≤ 200) (lx : line.Pairwise (Lx (vr rows) (osT names order))) {f : Fr} (hs : f.Suits order) {i : Nat} (hi : i < line.length) :
    g_window_at [tabD names rows, .list (line.map nD), .tuple (order.map dP), f.D, .int i] = .ok (.ow ((f.win (vr rows) (osT names order) line i).map nD)) := by
  have en := ends_F_ok T hw ho hol hr hl hs hi
  have f3 : dIdx f.D (.int 3) = some (.fz (.str f.but.S)) := by
    have h4 : ∀ a b c d : D, dIdx (.tuple [a, b, c, d]) (.int 3) = some (.fz d) := fun a b c d => by
      rw [dIdx_tuple]
      have := atI_nat (xs := [a, b, c, d]) (k := 3) (by simp)
      rw [show ((3 : Nat) : Int) = 3 from rfl] at this
      rw [this]; rfl
    cases f with
    | t f => exact h4 _ _ _ _
    | w f => exact h4 _ _ _ _
  have hs' : f.Suits (osT names order) := by
    cases f with
    | t f => trivial
    | w f => show (osT names order).length = 1; rw [osT_len]; exact hs
  rw [win_cut hs' lx]
  have xi : dIdx (.list (line.map nD)) (.int i) = some (.fz (.int (line.getD i 0 : Nat))) := by
    rw [dIdx_list_nat hi, getD_of_lt hi]; rfl
  have ri : line.getD i 0 < rows.length := by rw [getD_of_lt hi]; exact hr _ (List.getElem_mem hi)
  refine Okx.eq (okx_run ?_)
  simp only [b_window_at, pq_seq]
  simp [-List.getD_eq_getElem?_getD, envF, en]
  generalize f.first (vr rows) (osT names order) line i = F
  generalize f.behind (vr rows) (osT names order) line i = B
  refine wp_comp nD nD (fun r => !f.but.out (line.getD i 0) r (decide (alk (osT names order) (vr rows (line.getD i 0)) (vr rows r)))) ((line.drop F).take (max F B - F)) ?_
  have cm2 : cutD (line.map nD) (some (F : Int)) (some (max (F : Int) (B : Int))) = ((line.drop F).take (max F B - F)).map nD := by
    rw [show max (F : Int) (B : Int) = ((max F B : Nat) : Int) by omega]
    exact cutM_mid
  simp [-List.getD_eq_getElem?_getD, -List.map_take, -List.map_drop, cm2]
  refine ⟨cutM_mid, by omega, fun r hrr => ?_⟩
  have rr := hr r (List.mem_of_mem_drop (List.mem_of_mem_take hrr))
  have lo := left_out_ok T ho hol (but := f.but) ri rr
  simp [-List.getD_eq_getElem?_getD, f3, xi, nD, lo]
theorem need_frame_F {order : List (Str × Str)} {f : Fr} (hs : f.Suits order) : g_need_frame [.tuple (order.map dP), f.D] = .ok (.fz .none) := by
  cases f with
  | t f => exact need_frame_ok
  | w f =>
    have h : dEq (.str "worths") (.str "worths") = some (.fz (.bool true)) := by first | rfl | kernel_rfl
    have hl : order.length = 1 := hs
    refine Okx.eq (okx_run ?_)
    simp [b_need_frame, envF, Fr.D, FrW.D, ix_c, h, hl]
theorem need_frame_out {order : List (Str × Str)} {f : Fr} (hs : ¬ f.Suits order) : g_need_frame [.tuple (order.map dP), f.D] = .ex "NoFrame" := by
  cases f with
  | t f => exact absurd trivial hs
  | w f =>
    have h : dEq (.str "worths") (.str "worths") = some (.fz (.bool true)) := by first | rfl | kernel_rfl
    have hl : ¬ ((order.length : Int) = 1) := fun z => hs (show order.length = 1 by omega)
    refine okx_ex (okx_run ?_)
    simp [b_need_frame, envF, Fr.D, FrW.D, ix_c, h, hl]
/-- the rows that are like r by the key -/
def partR (key : Nat → Rw) (n r : Nat) : List Nat := (List.range n).filter fun s => decide (key s = key r)
theorem grp_part {key : Nat → Rw} {n : Nat} {p : List Nat} {r : Nat} (hp : p ∈ partsT key n) (hr : r ∈ p) : p = partR key n r := by
  have F := parts_facts hp
  obtain ⟨g, hg, rfl⟩ := List.mem_map.mp hp
  have G := grp_ok key n
  have kr := ((G.each g hg).2.2.2 r hr).2
  have fl := parts_flat key n
  refine List.Perm.eq_of_pairwise (le := (· < ·)) (fun a b _ _ h1 h2 => by omega) F.2.1 (List.pairwise_lt_range.filter _) ?_
  refine (List.perm_ext_iff_of_nodup (F.2.1.imp fun h => Nat.ne_of_lt h) (List.nodup_range.filter _)).mpr fun s => ?_
  rw [List.mem_filter, List.mem_range]
  constructor
  · intro hs
    have := (G.each g hg).2.2.2 s hs
    exact ⟨this.1, decide_eq_true (by rw [this.2, kr])⟩
  · rintro ⟨hs, e⟩
    have e := of_decide_eq_true e
    have hm : s ∈ (partsT key n).flatten := fl.mem_iff.mpr (List.mem_range.mpr hs)
    obtain ⟨q, hq, hsq⟩ := List.mem_flatten.mp hm
    obtain ⟨g', hg', rfl⟩ := List.mem_map.mp hq
    have ks := ((G.each g' hg').2.2.2 s hsq).2
    have : g'.1 = g.1 := by rw [← ks, ← kr, e]
    obtain ⟨i, hi, rfl⟩ := List.mem_iff_getElem.mp hg
    obtain ⟨j, hj, rfl⟩ := List.mem_iff_getElem.mp hg'
    have := (List.getElem_inj (i := j) (j := i) (h₀ := by simpa using hj) (h₁ := by simpa using hi) G.nd).mp (by simpa using this)
    subst this
    exact hsq
theorem part_of {key : Nat → Rw} {n r : Nat} (hr : r < n) : partR key n r ∈ partsT key n ∧ r ∈ partR key n r := by
  have hm : r ∈ (partsT key n).flatten := (parts_flat key n).mem_iff.mpr (List.mem_range.mpr hr)
  obtain ⟨q, hq, hsq⟩ := List.mem_flatten.mp hm
  rw [← grp_part hq hsq]
  exact ⟨hq, hsq⟩
end
end Com

set_option Elab.async false
set_option linter.all false
set_option maxRecDepth 100000
set_option maxHeartbeats 4000000
/-! window_of; asked, of any measure. -/
namespace Com
open PySem PySem.Spec L2 DL
/-- a measure, with its frame; a place -/
inductive Msr where
  | pl (m : Plc)
  | wi (f : Fr) (m : Mea)
def Msr.fD : Msr → D
  | .pl _ => .none
  | .wi f _ => f.D
def Msr.mD : Msr → D
  | .pl m => m.D
  | .wi _ m => m.D
def askD (bys : List Str) (order : List (Str × Str)) (A : Msr) : D := .tuple [.tuple (bys.map .str), .tuple (order.map dP), A.fD, A.mD]
def Msr.Ok (names : List Str) (order : List (Str × Str)) : Msr → Prop
  | .pl m => m.Ok names
  | .wi f m => m.Ok names ∧ f.Suits order
/-- what is told at a place of a line -/
def Msr.at (names : List Str) (rows : List Rw) (os : List OP) (line : List Nat) (i : Nat) : Msr → Option Int
  | .pl m => m.at names rows line (grpL (vr rows) os line line.length) i
  | .wi f m => m.val names rows (f.win (vr rows) os line i)
def lineR (names : List Str) (rows : List Rw) (bys : List Str) (order : List (Str × Str)) (r : Nat) : List Nat := ordT (vr rows) (osT names order) (partR (keyOf names rows bys) rows.length r)
/-- the answer of a row -/
def ansA (names : List Str) (rows : List Rw) (bys : List Str) (order : List (Str × Str)) (A : Msr) (r : Nat) : Option Int := A.at names rows (osT names order) (lineR names rows bys order r) ((lineR names rows bys order r).idxOf r)
def ansL (names : List Str) (rows : List Rw) (bys : List Str) (order : List (Str × Str)) (A : Msr) : List (Option Int) := (List.range rows.length).map (ansA names rows bys order A)
def winR (names : List Str) (rows : List Rw) (bys : List Str) (order : List (Str × Str)) (f : Fr) (r : Nat) : List Nat := f.win (vr rows) (osT names order) (lineR names rows bys order r) ((lineR names rows bys order r).idxOf r)
section
variable {names : List Str} {rows : List Rw}
theorem Fr.isn {f : Fr} : isNone f.D = false := by cases f <;> rfl
theorem partR_sorted {key : Nat → Rw} {n r : Nat} : (partR key n r).Pairwise (· < ·) := List.pairwise_lt_range.filter _
theorem partR_lt {key : Nat → Rw} {n r : Nat} : ∀ s ∈ partR key n r, s < n := fun s hs => List.mem_range.mp (List.mem_filter.mp hs).1
theorem partR_len {key : Nat → Rw} {n r : Nat} : (partR key n r).length ≤ n := by
  have := List.length_filter_le (fun s => decide (key s = key r)) (List.range n)
  unfold partR; simpa using this
section
variable {bys : List Str} {order : List (Str × Str)} {r : Nat}
theorem lineR_perm : (lineR names rows bys order r).Perm (partR (keyOf names rows bys) rows.length r) := ordT_perm
theorem lineR_lx : (lineR names rows bys order r).Pairwise (Lx (vr rows) (osT names order)) := ordT_sorted partR_sorted
theorem lineR_lt : ∀ s ∈ lineR names rows bys order r, s < rows.length := fun s hs => partR_lt s (lineR_perm.mem_iff.mp hs)
theorem lineR_len : (lineR names rows bys order r).length ≤ rows.length := by rw [lineR_perm.length_eq]; exact partR_len
theorem lineR_nd : (lineR names rows bys order r).Nodup := lineR_perm.nodup_iff.mpr (partR_sorted.imp fun h => Nat.ne_of_lt h)
theorem lineR_in (h : r < rows.length) : r ∈ lineR names rows bys order r := lineR_perm.mem_iff.mpr (part_of h).2
end
theorem need_names_ord (T : Tab names rows) {order : List (Str × Str)} (ho : ∀ p ∈ order, p.1 ∈ names) : g_need_names [tabD names rows, .list (order.map fun p => .str p.1)] = .ok (.fz .none) := by
  have nn := need_names_in T (zs := order.map (·.1)) (d := .list ((order.map (·.1)).map .str)) rfl (fun z hz => by
    obtain ⟨p, hp, rfl⟩ := List.mem_map.mp hz
    exact ho p hp)
  rw [List.map_map] at nn
  exact nn
theorem window_of_ok (T : Tab names rows) {bys : List Str} (hb : ∀ z ∈ bys, z ∈ names) (hbl : bys.length ≤ 1000) {order : List (Str × Str)} (hw : ∀ p ∈ order, WayOk p) (ho : ∀ p ∈ order, p.1 ∈ names) (hol : order.length ≤ 1000) {f : Fr} (hs : f.Suits order) {r : Nat} (hr : r < rows.length) :
    g_window_of [tabD names rows, .tuple (bys.map .str), .tuple (order.map dP), f.D, .int r] = .ok (.ow ((winR names rows bys order f r).map nD)) := by
  have r200 := T.r200
  have nb := need_names_in T (zs := bys) (d := .tuple (bys.map .str)) rfl hb
  have nn := need_names_ord T ho
  have nf := need_frame_F hs
  obtain ⟨hp, hrp⟩ := part_of (key := keyOf names rows bys) hr
  have pw := part_with_ok T hb hbl hp hrp
  have od := ordered_ok T (fun p hp => (hw p hp).sok) ho hol (partR_sorted (key := keyOf names rows bys) (n := rows.length) (r := r)) partR_lt
  have rin := lineR_in (names := names) (rows := rows) (bys := bys) (order := order) hr
  have li : lIndex ((lineR names rows bys order r).map nD) (nD r) = some (.fz (.int ((lineR names rows bys order r).idxOf r : Nat))) := lIndex_map (f := nD) (fun a b h => nD_inj h) (fun y _ => Nice.int) rin
  have ll := lineR_len (names := names) (rows := rows) (bys := bys) (order := order) (r := r)
  have wa := window_at_F T hw ho hol (line := lineR names rows bys order r) lineR_lt (by omega) lineR_lx hs (List.idxOf_lt_length_iff.mpr rin)
  refine Okx.eq (okx_run ?_)
  simp only [b_window_of, pq_seq]
  simp [envF, nb]
  refine wp_compM dP (fun p => .str p.1) order ?_
  simp [nn, dIdx_dP, nf, pw]
  refine ⟨by omega, ?_⟩
  unfold lsD
  rw [od]
  have e : ordT (vr rows) (osT names order) (partR (keyOf names rows bys) rows.length r) = lineR names rows bys order r := rfl
  have nr : PyData.int (r : Int) = nD r := rfl
  simp [e, nr, li, wa, winR]
theorem need_asking_A (T : Tab names rows) {bys : List Str} (hb : ∀ z ∈ bys, z ∈ names) {order : List (Str × Str)} (ho : ∀ p ∈ order, p.1 ∈ names) (hol : order.length ≤ 1000) {A : Msr} (hA : A.Ok names order) :
    g_need_asking [tabD names rows, askD bys order A] = .ok (.fz .none) := by
  cases A with
  | pl m => exact need_asking_ok T hb ho hol hA
  | wi f m =>
    have nn := need_names_ord T ho
    have nb := need_names_in T (zs := bys) (d := .tuple (bys.map .str)) rfl hb
    have nm := need_names_in T (zs := m.nms) (d := .list (m.nms.map .str)) rfl hA.1.1
    have nf := need_frame_F (f := f) hA.2
    refine Okx.eq (okx_run ?_)
    simp only [b_need_asking, pq_seq]
    simp [envF, askD, Msr.fD, Msr.mD, nb]
    refine wp_compM dP (fun p => .str p.1) order ?_
    simp [nn, dIdx_dP, names_in_mea, nm, Fr.isn, nf]
    omega
theorem putG_at {lineOf : List Nat → List Nat} {val : List Nat → Nat → Option Int} {r : Nat} {p : List Nat} (hl : ∀ p, (lineOf p).Perm p) (hnd : (lineOf p).Nodup) (hr : r ∈ p) : ∀ {ps : List (List Nat)} {ds : List D}, r < ds.length → p ∈ ps → (∀ q ∈ ps, r ∈ q → q = p) → (ps.foldl (putG lineOf val) ds)[r]? = some (dW (val p ((lineOf p).idxOf r)))
  | [], _, _, h, _ => by cases h
  | q :: ps, ds, hd, hp, hu => by
    rw [List.foldl_cons]
    by_cases hmem : p ∈ ps
    · exact putG_at hl hnd hr (by unfold putG; rw [fillL_len]; exact hd) hmem fun q' hq' => hu q' (by simp [hq'])
    · have e : q = p := by
        rcases List.mem_cons.mp hp with z | z
        · exact z.symm
        · exact absurd z hmem
      subst e
      rw [foldl_putG_out hl fun q' hq' hrq => hmem (by rw [← hu q' (by simp [hq']) hrq]; exact hq')]
      have hin := (hl q).mem_iff.mpr hr
      have hi := List.idxOf_lt_length_iff.mpr hin
      have go : ∀ k, (lineOf q).idxOf r < k → k ≤ (lineOf q).length → (fillL (fun k => dW (val q k)) (lineOf q) k ds)[r]? = some (dW (val q ((lineOf q).idxOf r))) := by
        intro k
        induction k with
        | zero => intro h; omega
        | succ k ih =>
          intro h1 h2
          rw [fillL, getD_of_lt (by omega : k < (lineOf q).length)]
          by_cases e : (lineOf q).idxOf r = k
          · subst e
            rw [List.getElem_idxOf, List.getElem?_set_self (by rw [fillL_len]; exact hd)]
          · rw [List.getElem?_set_ne, ih (by omega) (by omega)]
            intro z
            have := hnd.idxOf_getElem k (by omega)
            rw [z] at this
            exact e this
      exact go _ hi (Nat.le_refl _)
theorem ansG_eq {lineOf : List Nat → List Nat} {val : List Nat → Nat → Option Int} {key : Nat → Rw} {n : Nat} (hl : ∀ p, (lineOf p).Perm p) : ansG lineOf val n (partsT key n) = (List.range n).map fun r => dW (val (partR key n r) ((lineOf (partR key n r)).idxOf r)) := by
  apply List.ext_getElem?
  intro r
  by_cases h : r < n
  · obtain ⟨h1, h2⟩ := part_of (key := key) h
    rw [List.getElem?_map, List.getElem?_range h]
    unfold ansG
    exact putG_at hl ((hl _).nodup_iff.mpr (partR_sorted.imp fun h => Nat.ne_of_lt h)) h2 (by rw [List.length_replicate]; exact h) h1 fun q hq hrq => grp_part hq hrq
  · rw [List.getElem?_eq_none (by rw [ansG_len]; omega), List.getElem?_eq_none (by simp; omega)]
theorem asked_A (T : Tab names rows) {bys : List Str} (hb : ∀ z ∈ bys, z ∈ names) (hbl : bys.length ≤ 1000) {order : List (Str × Str)} (hw : ∀ p ∈ order, WayOk p) (ho : ∀ p ∈ order, p.1 ∈ names) (hol : order.length ≤ 1000) {A : Msr} (hA : A.Ok names order) :
    g_asked [tabD names rows, askD bys order A] = .ok (.ow ((ansL names rows bys order A).map dW)) := by
  have hrr := T.r200
  have hs : ∀ p ∈ order, Sok p.2 := fun p hp => (hw p hp).sok
  have fin : ∀ val : List Nat → Nat → Option Int, (∀ p k, val p k = A.at names rows (osT names order) (ordT (vr rows) (osT names order) p) k) → ansG (ordT (vr rows) (osT names order)) val rows.length (partsT (keyOf names rows bys) rows.length) = (ansL names rows bys order A).map dW := fun val hv => by
    rw [ansG_eq (fun p => ordT_perm)]
    unfold ansL
    rw [List.map_map]
    refine List.map_congr_left fun r _ => ?_
    rw [hv]; rfl
  cases A with
  | pl m =>
    have := asked_ok T hb hbl hs ho hol hA
    have e : ansT names rows bys order m (partsT (keyOf names rows bys) rows.length).length = ansG (ordT (vr rows) (osT names order)) (fun p k => (Msr.pl m).at names rows (osT names order) (ordT (vr rows) (osT names order) p) k) rows.length (partsT (keyOf names rows bys) rows.length) := by
      unfold ansT ansG
      rw [List.take_length]; rfl
    rw [e, fin _ (fun _ _ => rfl)] at this
    exact this
  | wi f m =>
    rw [← fin (fun p k => m.val names rows (f.win (vr rows) (osT names order) (ordT (vr rows) (osT names order) p) k)) (fun _ _ => rfl)]
    clear fin
    have ip : ∀ m : Mea, g_is_place [m.D] = .ok (.fz (.bool false)) := fun m => is_place_no
    refine Okx.eq (okx_run ?_)
    simp only [b_asked, pq_seq]
    have na := need_asking_A T hb ho hol hA
    unfold askD Msr.fD Msr.mD at na ⊢
    simp [envF, na]
    refine wp_compM dR (fun _ => .none) rows ?_
    simp
    refine ⟨by omega, ?_⟩
    refine pq_forI (fun i e => ∃ k7 k8 k9 k10 k11 : Option Cell, e = [some (.fz (tabD names rows)), some (.fz (.tuple [.tuple (bys.map .str), .tuple (order.map dP), f.D, m.D])), some (.fz (.tuple (bys.map .str))), some (.fz (.tuple (order.map dP))), some (.fz f.D), some (.fz m.D),
      some (.ow (ansG (ordT (vr rows) (osT names order)) (fun p k => m.val names rows (f.win (vr rows) (osT names order) (ordT (vr rows) (osT names order) p) k)) rows.length ((partsT (keyOf names rows bys) rows.length).take i))), k7, k8, k9, k10, k11]) ((partsT (keyOf names rows bys) rows.length).map lsD) ?_ ?_ ?_
    · simp [parts_of_ok T hb hbl]
      simp [ansG, List.map_const']
    · rintro i e ⟨k7, k8, k9, k10, k11, rfl⟩ hi
      simp at hi
      have st : ansG (ordT (vr rows) (osT names order)) (fun p k => m.val names rows (f.win (vr rows) (osT names order) (ordT (vr rows) (osT names order) p) k)) rows.length ((partsT (keyOf names rows bys) rows.length).take (i + 1)) = putG (ordT (vr rows) (osT names order)) (fun p k => m.val names rows (f.win (vr rows) (osT names order) (ordT (vr rows) (osT names order) p) k)) (ansG (ordT (vr rows) (osT names order)) (fun p k => m.val names rows (f.win (vr rows) (osT names order) (ordT (vr rows) (osT names order) p) k)) rows.length ((partsT (keyOf names rows bys) rows.length).take i)) (partsT (keyOf names rows bys) rows.length)[i] := by
        unfold ansG
        rw [List.take_succ_eq_append_getElem hi, List.foldl_append]; rfl
      rw [List.getElem_map, st]
      have hmem := List.getElem_mem hi
      have dl := ansG_len (lineOf := ordT (vr rows) (osT names order)) (val := (fun p k => m.val names rows (f.win (vr rows) (osT names order) (ordT (vr rows) (osT names order) p) k))) (n := rows.length) (ps := (partsT (keyOf names rows bys) rows.length).take i)
      generalize ansG (ordT (vr rows) (osT names order)) (fun p k => m.val names rows (f.win (vr rows) (osT names order) (ordT (vr rows) (osT names order) p) k)) rows.length ((partsT (keyOf names rows bys) rows.length).take i) = ds at dl
      generalize (partsT (keyOf names rows bys) rows.length)[i] = p at hmem
      have F := parts_facts hmem
      have od := ordered_ok T hs ho hol F.2.1 F.2.2.2
      have lx := ordT_sorted (v := vr rows) (os := osT names order) F.2.1
      unfold putG
      dsimp only
      have pm := ordT_perm (v := vr rows) (os := osT names order) (part := p)
      generalize ordT (vr rows) (osT names order) p = line at od pm lx
      have lr : ∀ r ∈ line, r < rows.length := fun r h => F.2.2.2 r (pm.mem_iff.mp h)
      have ll : line.length ≤ 200 := by rw [pm.length_eq]; omega
      have gd := groups_of_ok T ho hol lr (by omega)
      have wn := fun (j : Nat) (hj : j < line.length) => window_at_F T hw ho hol lr ll lx (f := f) hA.2 hj
      have ms := fun (j : Nat) => measured_ok T hA.1 (win := f.win (vr rows) (osT names order) line j) (fun r h => by
        obtain ⟨k, hk, rfl⟩ := List.mem_map.mp (List.mem_filter.mp h).1
        have hk := List.mem_range.mp (List.mem_filter.mp hk).1
        rw [getD_of_lt hk]
        exact lr _ (List.getElem_mem _)) (by
        have h1 := List.length_filter_le (fun r => !f.but.out (line.getD j 0) r (decide (alk (osT names order) (vr rows (line.getD j 0)) (vr rows r)))) ((f.pls (vr rows) (osT names order) line j).map fun j => line.getD j 0)
        have h2 := List.length_filter_le (fun k => !f.ah (vr rows) (osT names order) line j k && f.upto (vr rows) (osT names order) line j k) (List.range line.length)
        unfold Fr.win
        unfold Fr.pls at h1 ⊢
        rw [List.length_map] at h1
        rw [List.length_range] at h2
        omega)
      simp [lsD, od, gd]
      refine pq_forI (fun j e => ∃ k9 k10 k11 : Option Cell, e = [some (.fz (tabD names rows)), some (.fz (.tuple [.tuple (bys.map .str), .tuple (order.map dP), f.D, m.D])), some (.fz (.tuple (bys.map .str))), some (.fz (.tuple (order.map dP))), some (.fz f.D), some (.fz m.D),
        some (.ow (fillL (fun k => dW (m.val names rows (f.win (vr rows) (osT names order) line k))) line j ds)), some (.fz (.list (p.map nD))), some (.fz (.list (line.map nD))), k9, k10, k11]) (enumD (line.map nD)) ?_ ?_ ?_
      · simp [fillL]
      · rintro j e ⟨k9, k10, k11, rfl⟩ hj
        have hj' : j < line.length := by simpa [enumD] using hj
        have ej : (enumD (line.map nD))[j] = .tuple [.int (j : Nat), .int (line[j] : Nat)] := by simp [enumD, nD]
        have rj := lr _ (List.getElem_mem hj')
        have ixn : ixN rows.length ((line[j] : Nat) : Int) = some line[j] := ixN_nat rj
        have fl : (fillL (fun k => dW (m.val names rows (f.win (vr rows) (osT names order) line k))) line j ds).length = rows.length := by rw [fillL_len]; exact dl
        rw [ej, fillL, getD_of_lt hj']
        simp [ip, wn j hj', ms j, fl, ixn]
      · rintro e ⟨k9, k10, k11, rfl⟩
        have : (enumD (line.map nD)).length = line.length := by simp [enumD]
        simp [this]
    · rintro e ⟨k7, k8, k9, k10, k11, rfl⟩
      simp
end
end Com

set_option Elab.async false
set_option linter.all false
set_option maxRecDepth 100000
set_option maxHeartbeats 4000000
/-! answers of two tables, rows of the one standing for rows of the other. -/
namespace Com
open PySem PySem.Spec L2 DL
def Msr.nms : Msr → List Str
  | .pl m => m.nms
  | .wi _ m => m.nms
def Msr.Fits (order : List (Str × Str)) : Msr → Prop
  | .pl _ => True
  | .wi f _ => f.Suits order
/-- the worths by the names Z of the rows p' are those of their counterparts -/
structure Tra (names : List Str) (rows : List Rw) (names' : List Str) (rows' : List Rw) (Z : List Str) (p' : List Nat) (φ : Nat → Nat) : Prop where
  w : ∀ r ∈ p', ∀ z ∈ Z, ge (vr rows' r) (names'.idxOf z) = ge (vr rows (φ r)) (names.idxOf z)
  inj : ∀ a ∈ p', ∀ b ∈ p', φ a = φ b → a = b
section
variable {names names' : List Str} {rows rows' : List Rw} {Z : List Str} {p' : List Nat} {φ : Nat → Nat}
theorem Tra.alk (t : Tra names rows names' rows' Z p' φ) {order : List (Str × Str)} (hz : ∀ p ∈ order, p.1 ∈ Z) {a b : Nat} (ha : a ∈ p') (hb : b ∈ p') :
    decide (Com.alk (osT names' order) (vr rows' a) (vr rows' b)) = decide (Com.alk (osT names order) (vr rows (φ a)) (vr rows (φ b))) := by
  refine decide_eq_decide.mpr ⟨fun h p hp => ?_, fun h p hp => ?_⟩
  · obtain ⟨q, hq, rfl⟩ := List.mem_map.mp hp
    have := h _ (List.mem_map.mpr ⟨q, hq, rfl⟩)
    rw [t.w a ha q.1 (hz q hq), t.w b hb q.1 (hz q hq)] at this
    exact this
  · obtain ⟨q, hq, rfl⟩ := List.mem_map.mp hp
    have := h _ (List.mem_map.mpr ⟨q, hq, rfl⟩)
    show ge (vr rows' a) (names'.idxOf q.1) = ge (vr rows' b) (names'.idxOf q.1)
    rw [t.w a ha q.1 (hz q hq), t.w b hb q.1 (hz q hq)]
    exact this
theorem Tra.ordT (t : Tra names rows names' rows' Z p' φ) {part : List Nat} (hp : ∀ r ∈ part, r ∈ p') : ∀ {order : List (Str × Str)}, (∀ p ∈ order, p.1 ∈ Z) →
    (Com.ordT (vr rows') (osT names' order) part).map φ = Com.ordT (vr rows) (osT names order) (part.map φ)
  | [], _ => rfl
  | q :: order, hz => by
    have ih := Tra.ordT t hp (order := order) (fun p h => hz p (by simp [h]))
    show ((Com.ordT (vr rows') (osT names' order) part).mergeSort _).map φ = (Com.ordT (vr rows) (osT names order) (part.map φ)).mergeSort _
    rw [← ih]
    refine List.map_mergeSort fun a ha b hb => ?_
    have ha := hp a (ordT_perm.mem_iff.mp ha)
    have hb := hp b (ordT_perm.mem_iff.mp hb)
    rw [t.w a ha q.1 (hz q (by simp)), t.w b hb q.1 (hz q (by simp))]
    rfl
theorem getD_map {line : List Nat} {k : Nat} (h : k < line.length) : (line.map φ).getD k 0 = φ (line.getD k 0) := by
  rw [getD_of_lt (by simpa using h), getD_of_lt h]; simp
theorem getD_mem {line : List Nat} {k : Nat} (h : k < line.length) : line.getD k 0 ∈ line := by rw [getD_of_lt h]; exact List.getElem_mem _
theorem Tra.grpN (t : Tra names rows names' rows' Z p' φ) {order : List (Str × Str)} (hz : ∀ p ∈ order, p.1 ∈ Z) {line : List Nat} (hl : ∀ r ∈ line, r ∈ p') : ∀ k, k < line.length →
    Com.grpN (vr rows') (osT names' order) line k = Com.grpN (vr rows) (osT names order) (line.map φ) k
  | 0, _ => rfl
  | k + 1, h => by
    rw [Com.grpN, Com.grpN, Tra.grpN t hz hl k (by omega), getD_map (by omega), getD_map h, t.alk hz (hl _ (getD_mem (by omega))) (hl _ (getD_mem h))]
theorem Tra.grpL (t : Tra names rows names' rows' Z p' φ) {order : List (Str × Str)} (hz : ∀ p ∈ order, p.1 ∈ Z) {line : List Nat} (hl : ∀ r ∈ line, r ∈ p') :
    Com.grpL (vr rows') (osT names' order) line line.length = Com.grpL (vr rows) (osT names order) (line.map φ) (line.map φ).length := by
  unfold Com.grpL
  rw [List.length_map]
  exact List.map_congr_left fun k hk => t.grpN hz hl k (List.mem_range.mp hk)
theorem Tra.win (t : Tra names rows names' rows' Z p' φ) {order : List (Str × Str)} (hz : ∀ p ∈ order, p.1 ∈ Z) {line : List Nat} (hl : ∀ r ∈ line, r ∈ p') {f : Fr} (hs : f.Suits order) {i : Nat} (hi : i < line.length) :
    (f.win (vr rows') (osT names' order) line i).map φ = f.win (vr rows) (osT names order) (line.map φ) i := by
  have nm : ∀ g : FrT, g.nums (vr rows') (osT names' order) line = g.nums (vr rows) (osT names order) (line.map φ) := fun g => by
    unfold FrT.nums
    rw [t.grpL hz hl, List.length_map]
  have hp : f.pls (vr rows') (osT names' order) line i = f.pls (vr rows) (osT names order) (line.map φ) i := by
    unfold Fr.pls
    rw [List.length_map]
    refine List.filter_congr fun j hj => ?_
    have hj := List.mem_range.mp hj
    cases f with
    | t g => simp only [Fr.ah, Fr.upto, nm]
    | w g =>
      obtain ⟨q, rfl⟩ : ∃ q, order = [q] := by
        match order, hs with
        | [q], _ => exact ⟨q, rfl⟩
      simp only [Fr.ah, Fr.upto, osT, List.map_cons, List.map_nil, List.headD_cons]
      rw [getD_map hj, getD_map hi, t.w _ (hl _ (getD_mem hj)) q.1 (hz q (by simp)), t.w _ (hl _ (getD_mem hi)) q.1 (hz q (by simp))]
  unfold Fr.win
  rw [← hp]
  have e : ∀ js : List Nat, (∀ j ∈ js, j < line.length) → (((js.map fun j => line.getD j 0).filter fun r => !f.but.out (line.getD i 0) r (decide (Com.alk (osT names' order) (vr rows' (line.getD i 0)) (vr rows' r)))).map φ) =
      (js.map fun j => (line.map φ).getD j 0).filter fun r => !f.but.out ((line.map φ).getD i 0) r (decide (Com.alk (osT names order) (vr rows ((line.map φ).getD i 0)) (vr rows r))) := by
    intro js hjs
    have e1 : (js.map fun j => (line.map φ).getD j 0) = (js.map fun j => line.getD j 0).map φ := by
      rw [List.map_map]
      exact List.map_congr_left fun j hj => getD_map (hjs j hj)
    rw [e1, List.filter_map (f := φ) (l := js.map fun j => line.getD j 0)]
    congr 1
    refine List.filter_congr fun r hr => ?_
    obtain ⟨j, hj, rfl⟩ := List.mem_map.mp hr
    have hj := hjs j hj
    have m1 := hl _ (getD_mem hi)
    have m2 := hl _ (getD_mem hj)
    simp only [Function.comp, getD_map hi]
    rw [← t.alk hz m1 m2]
    have di : decide (line.getD i 0 = line.getD j 0) = decide (φ (line.getD i 0) = φ (line.getD j 0)) := decide_eq_decide.mpr ⟨fun h => by rw [h], fun h => t.inj _ m1 _ m2 h⟩
    cases f.but <;> simp only [But.out, di]
  exact e _ fun j hj => List.mem_range.mp (List.mem_filter.mp hj).1
theorem Tra.val (t : Tra names rows names' rows' Z p' φ) {m : Mea} (hm : ∀ z ∈ m.nms, z ∈ Z) {win : List Nat} (hl : ∀ r ∈ win, r ∈ p') : m.val names' rows' win = m.val names rows (win.map φ) := by
  have c : ∀ z ∈ m.nms, colT names' rows' z win = colT names rows z (win.map φ) := fun z hz => by
    unfold colT
    rw [List.map_map]
    exact List.map_congr_left fun r hr => t.w r (hl r hr) z (hm z hz)
  cases m <;> simp only [Mea.val, List.length_map] <;> first | rfl | rw [c _ (by simp [Mea.nms])]
theorem Tra.plc (t : Tra names rows names' rows' Z p' φ) {m : Plc} (hm : ∀ z ∈ m.nms, z ∈ Z) {line gs : List Nat} (hl : ∀ r ∈ line, r ∈ p') {i : Nat} : m.at names' rows' line gs i = m.at names rows (line.map φ) gs i := by
  have c : ∀ z ∈ m.nms, ∀ k : Int, wAt names' rows' z line k = wAt names rows z (line.map φ) k := fun z hz k => by
    unfold wAt
    rw [List.length_map]
    by_cases h : 0 ≤ k ∧ k < line.length
    · have hk : k.toNat < line.length := by omega
      rw [if_pos h, if_pos h, getD_map hk, t.w _ (hl _ (getD_mem hk)) z (hm z hz)]
    · rw [if_neg h, if_neg h]
  cases m with
  | number => rfl
  | rank => rfl
  | dense => rfl
  | back z k => exact c z (by simp [Plc.nms]) _
  | on_ z k => exact c z (by simp [Plc.nms]) _
  | pieces n => simp only [Plc.at, List.length_map]
theorem idxOf_mapI {line : List Nat} {r : Nat} (inj : ∀ a ∈ line, φ a = φ r → a = r) : (line.map φ).idxOf (φ r) = line.idxOf r := by
  induction line with
  | nil => rfl
  | cons a line ih =>
    rw [List.map_cons, List.idxOf_cons, List.idxOf_cons, ih fun b hb => inj b (by simp [hb])]
    by_cases h : a = r
    · subst h; simp
    · have : ¬ φ a = φ r := fun z => h (inj a (by simp) z)
      have b1 : (a == r) = false := by simpa using h
      have b2 : (φ a == φ r) = false := by simpa using this
      rw [b1, b2]
/-- the answers of a row and its counterpart -/
theorem Tra.ans {bys : List Str} {order : List (Str × Str)} {A : Msr} {r : Nat} (t : Tra names rows names' rows' Z (partR (keyOf names' rows' bys) rows'.length r) φ) (hz : ∀ p ∈ order, p.1 ∈ Z) (hA : ∀ z ∈ A.nms, z ∈ Z)
    (hs : A.Fits order) (hr : r < rows'.length) (hp : (partR (keyOf names' rows' bys) rows'.length r).map φ = partR (keyOf names rows bys) rows.length (φ r)) :
    ansA names' rows' bys order A r = ansA names rows bys order A (φ r) := by
  have hl : lineR names rows bys order (φ r) = (lineR names' rows' bys order r).map φ := by
    show Com.ordT _ _ _ = (Com.ordT _ _ _).map φ
    rw [t.ordT (fun _ h => h) hz, hp]
  have hlm : ∀ s ∈ lineR names' rows' bys order r, s ∈ partR (keyOf names' rows' bys) rows'.length r := fun s hs => lineR_perm.mem_iff.mp hs
  have hrp := (part_of (key := keyOf names' rows' bys) hr).2
  have hi := List.idxOf_lt_length_iff.mpr (lineR_in (names := names') (rows := rows') (bys := bys) (order := order) hr)
  unfold ansA
  rw [hl, idxOf_mapI fun a ha e => t.inj a (hlm a ha) r hrp e]
  cases A with
  | pl m =>
    show Plc.at _ _ _ _ _ m = Plc.at _ _ _ _ _ m
    rw [t.grpL hz hlm, t.plc hA hlm]
  | wi f m =>
    show Mea.val _ _ _ m = Mea.val _ _ _ m
    rw [← t.win hz hlm hs hi]
    refine t.val hA fun s hs => hlm s ?_
    obtain ⟨j, hj, rfl⟩ := List.mem_map.mp (List.mem_filter.mp hs).1
    exact getD_mem (List.mem_range.mp (List.mem_filter.mp hj).1)
end
end Com

set_option Elab.async false
set_option linter.all false
set_option maxRecDepth 100000
set_option maxHeartbeats 4000000
/-! drawn frames, drawn askings. -/
namespace Com
open PySem PySem.Spec L2 DL
def Bnd.Ok : Bnd → Prop
  | .back k => k ≤ 10 ^ 30
  | .on_ k => k ≤ 10 ^ 30
  | _ => True
def Fr.b : Fr → Bnd
  | .t f => f.b
  | .w f => f.b
def Fr.e : Fr → Bnd
  | .t f => f.e
  | .w f => f.e
def Fr.kind : Fr → Str
  | .t f => if f.ties = true then "ties" else "rows"
  | .w _ => "worths"
theorem Fr.D_eq (f : Fr) : f.D = .tuple [.str f.kind, f.b.D, f.e.D, .str f.but.S] := by cases f <;> rfl
structure Fr.Okb (f : Fr) : Prop where
  b : f.b.Ok
  e : f.e.Ok
  bl : f.b.isLast = false
  ef : f.e.isFirst = false
theorem law_a_bound_ok {pick far last : Int} (h0 : 0 ≤ pick) (h1 : pick < 10000000) (f0 : 0 ≤ far) (f1 : far ≤ 100000000000000000000000) (hl : last = 0 ∨ last = 1) :
    Okx (g_law_a_bound [.int pick, .int far, .int last]) (fun c => ∃ b : Bnd, c = .fz b.D ∧ b.Ok ∧ (last = 0 → b.isLast = false) ∧ (last = 1 → b.isFirst = false)) noX := by
  have gk := mod_in (n := pick / 400) (m := 3) (by omega)
  have ga := mod_in (n := pick / 8) (m := 4) (by omega)
  have gb := mod_in (n := pick / 8) (m := 40) (by omega)
  have p8 : 0 ≤ pick / 8 ∧ pick / 8 < 10000000 := by omega
  have m0 : 0 ≤ pick / 8 * far := Int.mul_nonneg p8.1 f0
  have m1 : pick / 8 * far ≤ 10000000 * 100000000000000000000000 := Int.mul_le_mul (by omega) f1 f0 (by omega)
  have mo : mulOk (pick / 8) far = true := mulOk_l p8.1 (by omega)
  obtain ⟨d, hd, ed⟩ := dIdx_mem (ds := [PyData.int (pick / 8 % 4), .int (pick / 8 % 40), .int (pick / 8 * far / 7)]) gk.1 gk.2
  obtain ⟨k, rfl, hk⟩ : ∃ k : Nat, d = .int k ∧ k ≤ 10 ^ 30 := by
    simp at hd
    rcases hd with rfl | rfl | rfl
    · exact ⟨(pick / 8 % 4).toNat, by congr 1; omega, by omega⟩
    · exact ⟨(pick / 8 % 40).toNat, by congr 1; omega, by omega⟩
    · exact ⟨(pick / 8 * far / 7).toNat, by congr 1; omega, by omega⟩
  obtain ⟨fl, efl, hfl⟩ : ∃ b : Bnd, dIdx (.list [Bnd.D .first, Bnd.D .last]) (.int last) = some (.fz b.D) ∧ b.Ok ∧ (last = 0 → b.isLast = false) ∧ (last = 1 → b.isFirst = false) := by
    rcases hl with rfl | rfl
    · exact ⟨.first, dIdx_0, trivial, fun _ => rfl, fun z => by omega⟩
    · exact ⟨.last, dIdx_1, trivial, fun z => by omega, fun _ => rfl⟩
  have gm := mod_in (n := pick) (m := 6) (by omega)
  obtain ⟨d, hd, ed2⟩ := dIdx_mem (ds := [Bnd.D (.back k), Bnd.D (.on_ k), Bnd.D .here, fl.D, Bnd.D (.back k), Bnd.D (.on_ k)]) gm.1 gm.2
  obtain ⟨b, rfl, hb⟩ : ∃ b : Bnd, d = b.D ∧ b.Ok ∧ (last = 0 → b.isLast = false) ∧ (last = 1 → b.isFirst = false) := by
    simp only [List.mem_cons, List.not_mem_nil, or_false] at hd
    rcases hd with rfl | rfl | rfl | rfl | rfl | rfl
    · exact ⟨.back k, rfl, hk, fun _ => rfl, fun _ => rfl⟩
    · exact ⟨.on_ k, rfl, hk, fun _ => rfl, fun _ => rfl⟩
    · exact ⟨.here, rfl, trivial, fun _ => rfl, fun _ => rfl⟩
    · exact ⟨fl, rfl, hfl⟩
    · exact ⟨.back k, rfl, hk, fun _ => rfl, fun _ => rfl⟩
    · exact ⟨.on_ k, rfl, hk, fun _ => rfl, fun _ => rfl⟩
  refine okx_run ?_
  have efl' : dIdx (.list [.tuple [.str "first"], .tuple [.str "last"]]) (.int last) = some (.fz fl.D) := efl
  have ed3 : dIdx (.list [.tuple [.str "back", .int k], .tuple [.str "on", .int k], .tuple [.str "here"], fl.D, .tuple [.str "back", .int k], .tuple [.str "on", .int k]]) (.int (pick % 6)) = some (.fz b.D) := ed2
  simp [b_law_a_bound, envF, mo, ed, efl', ed3]
  exact ⟨by decide, by decide, by decide, b, rfl, hb⟩
theorem law_a_frame_ok {picks : List Int} (hp : ∀ n ∈ picks, 0 ≤ n ∧ n < 1000000) (hl : 4 ≤ picks.length) {far : Int} (f0 : 0 ≤ far) (f1 : far ≤ 100000000000000000000000) :
    Okx (g_law_a_frame_k04 [.list (picks.map .int), .int far]) (fun c => ∃ f : Fr, c = .fz f.D ∧ f.Okb) noX := by
  have p0 := gi_in (k := 0) hp (by decide)
  have p1 := gi_in (k := 1) hp (by decide)
  have p2 := gi_in (k := 2) hp (by decide)
  have p3 := gi_in (k := 3) hp (by decide)
  have i0 : dIdx (.list (picks.map .int)) (.int 0) = some (.fz (.int (gi picks 0))) := dIdx_ints (k := 0) (by omega)
  have i1 : dIdx (.list (picks.map .int)) (.int 1) = some (.fz (.int (gi picks 1))) := dIdx_ints (k := 1) (by omega)
  have i2 : dIdx (.list (picks.map .int)) (.int 2) = some (.fz (.int (gi picks 2))) := dIdx_ints (k := 2) (by omega)
  have i3 : dIdx (.list (picks.map .int)) (.int 3) = some (.fz (.int (gi picks 3))) := dIdx_ints (k := 3) (by omega)
  have g0 := mod_in (n := gi picks 0) (m := 3) (by omega)
  have g1 := mod_in (n := gi picks 1) (m := 5) (by omega)
  obtain ⟨d, hd, ed⟩ := dIdx_mem (ds := [PyData.str "rows", .str "ties", .str "worths"]) g0.1 g0.2
  obtain ⟨d1, hd1, ed1⟩ := dIdx_mem (ds := [PyData.str "none", .str "none", .str "row", .str "ties", .str "group"]) g1.1 g1.2
  obtain ⟨but, rfl⟩ : ∃ but : But, d1 = .str but.S := by
    simp only [List.mem_cons, List.not_mem_nil, or_false] at hd1
    rcases hd1 with rfl | rfl | rfl | rfl | rfl
    · exact ⟨.none, rfl⟩
    · exact ⟨.none, rfl⟩
    · exact ⟨.row, rfl⟩
    · exact ⟨.ties, rfl⟩
    · exact ⟨.group, rfl⟩
  obtain ⟨mk, hmk, hb, he⟩ : ∃ mk : Bnd → Bnd → Fr, (∀ b e, PyData.tuple [d, b.D, e.D, .str but.S] = (mk b e).D) ∧ (∀ b e, (mk b e).b = b) ∧ ∀ b e, (mk b e).e = e := by
    simp only [List.mem_cons, List.not_mem_nil, or_false] at hd
    rcases hd with rfl | rfl | rfl
    · exact ⟨fun b e => .t ⟨false, b, e, but⟩, fun _ _ => rfl, fun _ _ => rfl, fun _ _ => rfl⟩
    · exact ⟨fun b e => .t ⟨true, b, e, but⟩, fun _ _ => rfl, fun _ _ => rfl, fun _ _ => rfl⟩
    · exact ⟨fun b e => .w ⟨b, e, but⟩, fun _ _ => rfl, fun _ _ => rfl, fun _ _ => rfl⟩
  refine okx_run ?_
  simp [b_law_a_frame_k04, envF, i0, i1, i2, i3, ed, ed1]
  refine (law_a_bound_ok (pick := gi picks 2) (far := far) (last := 0) p2.1 (by omega) f0 f1 (.inl rfl)).imp (fun c hc => ?_) (fun _ h => h)
  obtain ⟨b, rfl, b1, b2, _⟩ := hc
  simp [i0, i1, i2, i3]
  refine (law_a_bound_ok (pick := gi picks 3) (far := far) (last := 1) p3.1 (by omega) f0 f1 (.inr rfl)).imp (fun c hc => ?_) (fun _ h => h)
  obtain ⟨e, rfl, e1, _, e2⟩ := hc
  simp
  exact ⟨mk b e, hmk b e, by rw [hb]; exact b1, by rw [he]; exact e1, by rw [hb]; exact b2 rfl, by rw [he]; exact e2 rfl⟩
end Com

set_option Elab.async false
set_option linter.all false
set_option maxRecDepth 100000
set_option maxHeartbeats 4000000
/-! drawn askings, the names in a tuple or in a list. -/
namespace Com
open PySem PySem.Spec L2 DL
/-- names, in a tuple or in a list -/
structure NmD (names : List Str) (dn : D) : Prop where
  len : bLen [dn] = some (.fz (.int names.length))
  ix : ∀ i : Int, dIdx dn (.int i) = (atI (names.map PyData.str) i).map .fz
theorem nmD_tup {names : List Str} : NmD names (.tuple (names.map .str)) := ⟨by simp, fun i => dIdx_tuple⟩
theorem nmD_list {names : List Str} : NmD names (.list (names.map .str)) := ⟨by simp, fun i => dIdx_list⟩
section
variable {names : List Str} {dn : DL.D}
theorem law_a_by_g (N : NmD names dn) {hn : 1 ≤ names.length} (hl : names.length ≤ 100) {pick : Int} (h0 : 0 ≤ pick) (h1 : pick < 10000000) :
    Okx (g_law_a_by [dn, .int pick]) (fun c => ∃ bys : List Str, c = .fz (.tuple (bys.map .str)) ∧ bys.length ≤ 8 ∧ ∀ z ∈ bys, z ∈ names) noX := by
  have g := mod_in (n := pick) (m := 6) (by omega)
  obtain ⟨d, hd, ed⟩ := dIdx_mem (ds := [PyData.int 0, .int 1, .int 1, .int 2, .int 3, .int 8]) g.1 g.2
  obtain ⟨m, rfl, hm⟩ : ∃ m : Nat, d = .int m ∧ m ≤ 8 := by
    simp at hd
    rcases hd with rfl | rfl | rfl | rfl | rfl
    · exact ⟨0, rfl, by decide⟩
    · exact ⟨1, rfl, by decide⟩
    · exact ⟨2, rfl, by decide⟩
    · exact ⟨3, rfl, by decide⟩
    · exact ⟨8, rfl, by decide⟩
  refine okx_run ?_
  simp [N.len, b_law_a_by, envF]
  refine pq_forI (fun i e => ∃ (bys : List Str) (k : Option Cell), e = [some (.fz dn), some (.fz (.int pick)), some (.ow (bys.map .str)), k] ∧ bys.length = i ∧ ∀ z ∈ bys, z ∈ names) (rangeD 0 m) ?_ ?_ ?_
  · simp [wp_range1, ed]
    simp [sm62]; omega
  · rintro i e ⟨bys, k, rfl, hb, hbn⟩ hi
    simp at hi
    simp only [rangeD_get, Int.zero_add]
    have mm : mulOk (i : Int) (1 + pick / 60) = true := mulOk_l (by omega) (by omega)
    have g2 := mod_in (n := pick / 6 + (i : Int) * (1 + pick / 60)) (m := names.length) (by omega)
    have ix := N.ix ((pick / 6 + (i : Int) * (1 + pick / 60)) % names.length)
    rw [atI_in g2.1 (by simpa using g2.2)] at ix
    simp [N.len, mm, ix]
    refine ⟨by decide, by decide, by omega, by omega, bys ++ [_], by rw [List.map_append]; rfl, by simp [hb], ?_⟩
    intro z hz
    rcases List.mem_append.mp hz with q | q
    · exact hbn z q
    · simp at q; rw [q]; exact List.getElem_mem _
  · rintro e ⟨bys, k, rfl, hb, hbn⟩
    simp at hb
    simp
    exact ⟨bys, rfl, by omega, hbn⟩
theorem law_a_order_g (N : NmD names dn) {hn : 1 ≤ names.length} (hl : names.length ≤ 100) {pick : Int} (h0 : 0 ≤ pick) (h1 : pick < 10000000) :
    Okx (g_law_a_order [dn, .int pick]) (fun c => ∃ os : List (Str × Str), c = .fz (.tuple (os.map dP)) ∧ os.length ≤ 8 ∧ ∀ p ∈ os, p.1 ∈ names ∧ WayOk p) noX := by
  have g := mod_in (n := pick) (m := 6) (by omega)
  obtain ⟨d, hd, ed⟩ := dIdx_mem (ds := [PyData.int 1, .int 0, .int 1, .int 2, .int 3, .int 8]) g.1 g.2
  obtain ⟨m, rfl, hm⟩ : ∃ m : Nat, d = .int m ∧ m ≤ 8 := by
    simp at hd
    rcases hd with rfl | rfl | rfl | rfl | rfl | rfl
    · exact ⟨1, rfl, by decide⟩
    · exact ⟨0, rfl, by decide⟩
    · exact ⟨1, rfl, by decide⟩
    · exact ⟨2, rfl, by decide⟩
    · exact ⟨3, rfl, by decide⟩
    · exact ⟨8, rfl, by decide⟩
  refine okx_run ?_
  simp [N.len, b_law_a_order, envF]
  refine pq_forI (fun i e => ∃ (os : List (Str × Str)) (k k2 : Option Cell), e = [some (.fz dn), some (.fz (.int pick)), some (.ow (os.map dP)), k, k2] ∧ os.length = i ∧ ∀ p ∈ os, p.1 ∈ names ∧ WayOk p) (rangeD 0 m) ?_ ?_ ?_
  · simp [wp_range1, ed]
    simp [sm62]; omega
  · rintro i e ⟨os, k, k2, rfl, hb, hbn⟩ hi
    simp at hi
    simp only [rangeD_get, Int.zero_add]
    have mm : mulOk (i : Int) (1 + pick / 60) = true := mulOk_l (by omega) (by omega)
    have g2 := mod_in (n := pick / 6 + (i : Int) * (1 + pick / 60)) (m := names.length) (by omega)
    have ix := N.ix ((pick / 6 + (i : Int) * (1 + pick / 60)) % names.length)
    rw [atI_in g2.1 (by simpa using g2.2)] at ix
    have sh : dShr (.int (pick / 600)) (.int (i : Int)) = some (.fz (.int (pick / 600 / 2 ^ i))) := by
      show (if (0 : Int) ≤ (i : Int) then some (Cell.fz (.int (pick / 600 / 2 ^ (i : Int).toNat))) else none) = _
      rw [if_pos (by omega)]; rfl
    have g3 := mod_in (n := pick / 600 / 2 ^ i) (m := 2) (by omega)
    obtain ⟨w, hw, ew⟩ := dIdx_mem (ds := [PyData.str "up", .str "down"]) g3.1 g3.2
    obtain ⟨way, rfl, hway⟩ : ∃ way : Str, w = .str way ∧ (way = "up" ∨ way = "down") := by
      simp at hw
      rcases hw with rfl | rfl
      · exact ⟨_, rfl, .inl rfl⟩
      · exact ⟨_, rfl, .inr rfl⟩
    simp [N.len, mm, ix, sh, ew]
    refine ⟨by decide, by decide, by omega, by decide, by omega, os ++ [(_, way)], by rw [List.map_append]; rfl, by simp [hb], ?_⟩
    intro a b hp
    rcases List.mem_append.mp hp with q | q
    · exact hbn (a, b) q
    · simp at q
      rw [q.1, q.2]
      exact ⟨List.getElem_mem _, hway⟩
  · rintro e ⟨os, k, k2, rfl, hb, hbn⟩
    simp at hb
    simp
    exact ⟨os, rfl, by omega, fun a b h => hbn (a, b) h⟩
theorem law_a_place_g (N : NmD names dn) {hn : 1 ≤ names.length} (hl : names.length ≤ 100) {pick : Int} (h0 : 0 ≤ pick) (h1 : pick < 10000000) :
    Okx (g_law_a_place [dn, .int pick]) (fun c => ∃ m : Plc, c = .fz m.D ∧ m.Ok names) noX := by
  have g2 := mod_in (n := pick / 6) (m := names.length) (by omega)
  have ix := N.ix (pick / 6 % names.length)
  rw [atI_in g2.1 (by simpa using g2.2)] at ix
  have zn : names[(pick / 6 % names.length).toNat]'(by have := g2; omega) ∈ names := List.getElem_mem _
  simp at ix
  generalize names[(pick / 6 % names.length).toNat]'(by have := g2; omega) = z at ix zn
  have gk := mod_in (n := pick / 5000) (m := 3) (by omega)
  have ga := mod_in (n := pick / 100) (m := 4) (by omega)
  have gb := mod_in (n := pick / 100) (m := 50) (by omega)
  obtain ⟨d, hd, ed⟩ := dIdx_mem (ds := [PyData.int (pick / 100 % 4), .int (pick / 100 % 50), .int (10 ^ 39)]) gk.1 gk.2
  obtain ⟨k, rfl, hk⟩ : ∃ k : Nat, d = .int k ∧ k ≤ 10 ^ 39 := by
    simp at hd
    rcases hd with rfl | rfl | rfl
    · exact ⟨(pick / 100 % 4).toNat, by congr 1; omega, by omega⟩
    · exact ⟨(pick / 100 % 50).toNat, by congr 1; omega, by omega⟩
    · exact ⟨10 ^ 39, rfl, Nat.le_refl _⟩
  have gm := mod_in (n := pick) (m := 6) (by omega)
  have mn : ∃ n : Nat, (if 60 < (k : Int) then 60 else (k : Int)) + 1 = (n : Int) ∧ 1 ≤ n ∧ n ≤ 61 := by
    refine ⟨(if 60 < k then 60 else k) + 1, ?_, by omega, ?_⟩
    · split <;> split <;> omega
    · split <;> omega
  obtain ⟨n, en, n1, n2⟩ := mn
  obtain ⟨d, hd, ed2⟩ := dIdx_mem (ds := [Plc.D .number, Plc.D .rank, Plc.D .dense, Plc.D (.back z k), Plc.D (.on_ z k), Plc.D (.pieces n)]) gm.1 gm.2
  obtain ⟨m, rfl, hm⟩ : ∃ m : Plc, d = m.D ∧ m.Ok names := by
    simp at hd
    rcases hd with rfl | rfl | rfl | rfl | rfl | rfl
    · exact ⟨.number, rfl, trivial⟩
    · exact ⟨.rank, rfl, trivial⟩
    · exact ⟨.dense, rfl, trivial⟩
    · exact ⟨.back z k, rfl, zn, hk⟩
    · exact ⟨.on_ z k, rfl, zn, hk⟩
    · exact ⟨.pieces n, rfl, n1, n2⟩
  refine okx_run ?_
  simp [N.len, b_law_a_place, envF, ix]
  simp at ed
  simp [ed]
  have ed3 : dIdx (.list [.tuple [.str "number"], .tuple [.str "rank"], .tuple [.str "dense"], .tuple [.str "back", .str z, .int k], .tuple [.str "on", .str z, .int k], .tuple [.str "pieces", .int n]]) (.int (pick % 6)) = some (.fz m.D) := ed2
  refine ⟨by decide, by omega, by decide, by decide, by rw [sizeLine_eq]; omega, ?_⟩
  rw [en, ed3]
  simp
  exact ⟨m, rfl, hm⟩
theorem law_a_measure_g (N : NmD names dn) {hn : 1 ≤ names.length} (hl : names.length ≤ 100) {pick : Int} (h0 : 0 ≤ pick) (h1 : pick < 10000000) :
    Okx (g_law_a_measure [dn, .int pick]) (fun c => ∃ m : Mea, c = .fz m.D ∧ m.Ok names) noX := by
  have g2 := mod_in (n := pick / 9) (m := names.length) (by omega)
  have ix := N.ix (pick / 9 % names.length)
  rw [atI_in g2.1 (by simpa using g2.2)] at ix
  have zn : names[(pick / 9 % names.length).toNat]'(by have := g2; omega) ∈ names := List.getElem_mem _
  simp at ix
  generalize names[(pick / 9 % names.length).toNat]'(by have := g2; omega) = z at ix zn
  have gk := mod_in (n := pick / 6000) (m := 3) (by omega)
  have ga := mod_in (n := pick / 100) (m := 3) (by omega)
  have gb := mod_in (n := pick / 100) (m := 60) (by omega)
  obtain ⟨d, hd, ed⟩ := dIdx_mem (ds := [PyData.int (pick / 100 % 3), .int (pick / 100 % 60), .int (10 ^ 39)]) gk.1 gk.2
  obtain ⟨k, rfl, hk⟩ : ∃ k : Nat, d = .int k ∧ k ≤ 10 ^ 39 := by
    simp at hd
    rcases hd with rfl | rfl | rfl
    · exact ⟨(pick / 100 % 3).toNat, by congr 1; omega, by omega⟩
    · exact ⟨(pick / 100 % 60).toNat, by congr 1; omega, by omega⟩
    · exact ⟨10 ^ 39, rfl, Nat.le_refl _⟩
  have gm := mod_in (n := pick) (m := 9) (by omega)
  obtain ⟨d, hd, ed2⟩ := dIdx_mem (ds := [Mea.D .rows, Mea.D (.count z), Mea.D (.sum z), Mea.D (.least z), Mea.D (.most z), Mea.D (.first z), Mea.D (.last z), Mea.D (.nth z (1 + k)), Mea.D (.sum z)]) gm.1 gm.2
  have one : ∀ w ∈ [z], w ∈ names := fun w hw => by simp at hw; rw [hw]; exact zn
  obtain ⟨m, rfl, hm⟩ : ∃ m : Mea, d = m.D ∧ m.Ok names := by
    simp at hd
    rcases hd with rfl | rfl | rfl | rfl | rfl | rfl | rfl | rfl | rfl
    · exact ⟨.rows, rfl, fun w hw => by simp [Mea.nms] at hw, trivial⟩
    · exact ⟨.count z, rfl, one, trivial⟩
    · exact ⟨.sum z, rfl, one, trivial⟩
    · exact ⟨.least z, rfl, one, trivial⟩
    · exact ⟨.most z, rfl, one, trivial⟩
    · exact ⟨.first z, rfl, one, trivial⟩
    · exact ⟨.last z, rfl, one, trivial⟩
    · exact ⟨.nth z (1 + k), rfl, one, by show 1 ≤ 1 + k ∧ 1 + k ≤ 10 ^ 39 + 1; omega⟩
    · exact ⟨.sum z, rfl, one, trivial⟩
  refine okx_run ?_
  simp [N.len, b_law_a_measure, envF, ix]
  simp at ed
  simp [ed]
  have ed3 : dIdx (.list [.tuple [.str "count"], .tuple [.str "count", .str z], .tuple [.str "sum", .str z], .tuple [.str "least", .str z], .tuple [.str "most", .str z], .tuple [.str "first", .str z], .tuple [.str "last", .str z], .tuple [.str "nth", .str z, .int ((1 + k : Nat) : Int)], .tuple [.str "sum", .str z]]) (.int (pick % 9)) = some (.fz m.D) := ed2
  rw [Int.natCast_add] at ed3
  refine ⟨by decide, by omega, by decide, by decide, by rw [sizeLine_eq]; omega, ?_⟩
  rw [show ((1 : Nat) : Int) = 1 from rfl] at ed3
  rw [ed3]
  simp
  exact ⟨m, rfl, hm⟩
structure AskOk (names : List Str) (bys : List Str) (order : List (Str × Str)) (A : Msr) : Prop where
  bl : bys.length ≤ 8
  bm : ∀ z ∈ bys, z ∈ names
  ol : order.length ≤ 8
  om : ∀ p ∈ order, p.1 ∈ names ∧ WayOk p
  ok : A.Ok names order
def Msr.Okb : Msr → Prop
  | .pl _ => True
  | .wi f _ => f.Okb
def Fr.isW : Fr → Bool
  | .w _ => true
  | .t _ => false
theorem kind_w {f : Fr} : dEq (.str f.kind) (.str "worths") = some (.fz (.bool f.isW)) := by
  cases f with
  | t f => exact frt_c f.ties
  | w f => first | rfl | kernel_rfl
theorem suits_t {α : Type} {f : Fr} {order : List α} (h : f.isW = false) : f.Suits order := by
  cases f with
  | t f => trivial
  | w f => cases h
theorem suits_1 {α : Type} {f : Fr} {p : α} : f.Suits [p] := by
  cases f with
  | t f => trivial
  | w f => exact rfl
/-- an order of one pair, drawn -/
theorem one_pair (N : NmD names dn) (n1 : 1 ≤ names.length) {pk : Int} (h0 : 0 ≤ pk) :
    ∃ z way, z ∈ names ∧ (way = ("up" : Str) ∨ way = "down") ∧ dIdx dn (.int (pk / 7 % names.length)) = some (.fz (.str z)) ∧ dIdx (.list [PyData.str "up", .str "down"]) (.int (pk % 2)) = some (.fz (.str way)) := by
  have g2 := mod_in (n := pk / 7) (m := names.length) (by omega)
  have ix := N.ix (pk / 7 % names.length)
  rw [atI_in g2.1 (by simpa using g2.2)] at ix
  have zn : names[(pk / 7 % names.length).toNat]'(by have := g2; omega) ∈ names := List.getElem_mem _
  simp at ix
  have g3 := mod_in (n := pk) (m := 2) (by omega)
  obtain ⟨w, hw, ew⟩ := dIdx_mem (ds := [PyData.str "up", .str "down"]) g3.1 g3.2
  obtain ⟨way, rfl, hway⟩ : ∃ way : Str, w = .str way ∧ (way = "up" ∨ way = "down") := by
    simp at hw
    rcases hw with rfl | rfl
    · exact ⟨_, rfl, .inl rfl⟩
    · exact ⟨_, rfl, .inr rfl⟩
  exact ⟨_, way, zn, hway, ix, ew⟩
theorem place_eq : g_law_place = g_law_a_place := rfl
theorem measure_eq : g_law_measure = g_law_a_measure := rfl
theorem frame_eq : g_law_a_frame_k08 = g_law_a_frame_k04 := rfl
theorem law_a_asking38_g (N : NmD names dn) (n1 : 1 ≤ names.length) (n8 : names.length ≤ 100) {picks : List Int} (hp : ∀ n ∈ picks, 0 ≤ n ∧ n < 1000000) (hl : 8 ≤ picks.length) :
    Okx (g_law_a_asking_k38 [dn, .list (picks.map .int)]) (fun c => ∃ bys order A, c = .fz (askD bys order A) ∧ AskOk names bys order A ∧ A.Okb) noX := by
  have p4 := gi_in (k := 4) hp (by decide)
  have p5 := gi_in (k := 5) hp (by decide)
  have p6 := gi_in (k := 6) hp (by decide)
  have p7 := gi_in (k := 7) hp (by decide)
  have i4 : dIdx (.list (picks.map .int)) (.int 4) = some (.fz (.int (gi picks 4))) := dIdx_ints (k := 4) (by omega)
  have i5 : dIdx (.list (picks.map .int)) (.int 5) = some (.fz (.int (gi picks 5))) := dIdx_ints (k := 5) (by omega)
  have i6 : dIdx (.list (picks.map .int)) (.int 6) = some (.fz (.int (gi picks 6))) := dIdx_ints (k := 6) (by omega)
  have i7 : dIdx (.list (picks.map .int)) (.int 7) = some (.fz (.int (gi picks 7))) := dIdx_ints (k := 7) (by omega)
  refine okx_run ?_
  simp [b_law_a_asking_k38, envF, i4, i5, i6, i7]
  refine (law_a_by_g N (hn := n1) n8 p4.1 (by omega)).imp (fun c hc => ?_) (fun _ h => h)
  obtain ⟨bys, rfl, hbl, hbs⟩ := hc
  simp [i4, i5, i6, i7]
  refine (law_a_order_g N (hn := n1) n8 p5.1 (by omega)).imp (fun c hc => ?_) (fun _ h => h)
  obtain ⟨order, rfl, hol, hos⟩ := hc
  simp [i4, i5, i6, i7]
  split
  · simp [place_eq, i6]
    refine (law_a_place_g N (hn := n1) n8 p6.1 (by omega)).imp (fun c hc => ?_) (fun _ h => h)
    obtain ⟨m, rfl, hm⟩ := hc
    simp
    exact ⟨bys, order, .pl m, rfl, ⟨hbl, hbs, hol, hos, hm⟩, trivial⟩
  · have g6 := mod_in (n := gi picks 6) (m := 2) (by omega)
    obtain ⟨d, hd, ed⟩ := dIdx_mem (ds := [PyData.int 1, .int (10 ^ 23)]) g6.1 g6.2
    obtain ⟨far, rfl, hf⟩ : ∃ far : Int, d = .int far ∧ 0 ≤ far ∧ far ≤ 100000000000000000000000 := by
      simp at hd
      rcases hd with rfl | rfl
      · exact ⟨_, rfl, by decide, by decide⟩
      · exact ⟨_, rfl, by decide, by decide⟩
    have ed' : dIdx (.list [PyData.int 1, .int 100000000000000000000000]) (.int (gi picks 6 % 2)) = some (.fz (.int far)) := ed
    simp [frame_eq, i6, ed']
    refine (law_a_frame_ok hp (by omega) hf.1 hf.2).imp (fun c hc => ?_) (fun _ h => h)
    obtain ⟨f, rfl, hfb⟩ := hc
    have fk : dIdx f.D (.int 0) = some (.fz (.str f.kind)) := by rw [Fr.D_eq]; exact ix_c _ _
    simp [fk, kind_w]
    cases hw : f.isW with
    | false =>
      simp [measure_eq, i6]
      refine (law_a_measure_g N (hn := n1) n8 p6.1 (by omega)).imp (fun c hc => ?_) (fun _ h => h)
      obtain ⟨m, rfl, hm⟩ := hc
      simp
      exact ⟨bys, order, .wi f m, rfl, ⟨hbl, hbs, hol, hos, hm, suits_t hw⟩, hfb⟩
    | true =>
      obtain ⟨z, way, hz, hway, x1, x2⟩ := one_pair N n1 p5.1
      simp [N.len, i5, x1, x2, measure_eq, i6]
      refine ⟨by decide, by omega, ?_⟩
      refine (law_a_measure_g N (hn := n1) n8 p6.1 (by omega)).imp (fun c hc => ?_) (fun _ h => h)
      obtain ⟨m, rfl, hm⟩ := hc
      simp
      exact ⟨bys, [(z, way)], .wi f m, rfl, ⟨hbl, hbs, by simp, fun p hp => by simp at hp; rw [hp]; exact ⟨hz, hway⟩, hm, suits_1⟩, hfb⟩
end
end Com

set_option Elab.async false
set_option linter.all false
set_option maxRecDepth 100000
set_option maxHeartbeats 4000000
/-! k39: a part alone, rows put behind, columns turned, a column altered; in plain Lean. -/
namespace Com
open PySem PySem.Spec L2 DL
def usedZ (bys : List Str) (order : List (Str × Str)) (A : Msr) : List Str := bys ++ order.map (·.1) ++ A.nms
theorem Msr.Ok.of {names names' : List Str} {order : List (Str × Str)} {A : Msr} (h : A.Ok names order) (hs : ∀ z ∈ A.nms, z ∈ names') : A.Ok names' order := by
  cases A with
  | pl m => cases m <;> first | exact h | exact ⟨hs _ (by simp [Msr.nms, Plc.nms]), h.2⟩
  | wi f m => exact ⟨⟨fun z hz => hs z hz, h.1.2⟩, h.2⟩
theorem Msr.Ok.nms {names : List Str} {order : List (Str × Str)} {A : Msr} (h : A.Ok names order) : ∀ z ∈ A.nms, z ∈ names := by
  intro z hz
  cases A with
  | pl m =>
    cases m <;> simp [Msr.nms, Plc.nms] at hz
    · rw [hz]; exact h.1
    · rw [hz]; exact h.1
  | wi f m => exact h.1.1 z hz
theorem Msr.Ok.suits {names : List Str} {order : List (Str × Str)} {A : Msr} (h : A.Ok names order) : A.Fits order := by
  cases A with
  | pl m => trivial
  | wi f m => exact h.2
section
variable {names names' : List Str} {rows rows' : List Rw} {bys : List Str} {order : List (Str × Str)} {A : Msr}
theorem keyOf_eq {r r' : Nat} (h : ∀ z ∈ bys, ge (vr rows' r') (names'.idxOf z) = ge (vr rows r) (names.idxOf z)) : keyOf names' rows' bys r' = keyOf names rows bys r := by
  unfold keyOf
  exact List.map_congr_left h
/-- rows by rows alike -/
theorem ans_same (hA : A.Ok names order) (hl : rows'.length = rows.length) (hw : ∀ r, r < rows.length → ∀ z ∈ usedZ bys order A, ge (vr rows' r) (names'.idxOf z) = ge (vr rows r) (names.idxOf z)) : ansL names' rows' bys order A = ansL names rows bys order A := by
  have hp : ∀ r, r < rows.length → partR (keyOf names' rows' bys) rows'.length r = partR (keyOf names rows bys) rows.length r := fun r hr => by
    unfold partR
    rw [hl]
    refine List.filter_congr fun s hs => ?_
    have hs := List.mem_range.mp hs
    rw [keyOf_eq (r := s) fun z hz => hw s hs z (by simp [usedZ, hz]), keyOf_eq (r := r) fun z hz => hw r hr z (by simp [usedZ, hz])]
  unfold ansL
  rw [hl]
  refine List.map_congr_left fun r hr => ?_
  have hr := List.mem_range.mp hr
  have t : Tra names rows names' rows' (usedZ bys order A) (partR (keyOf names' rows' bys) rows'.length r) id := ⟨fun s hs z hz => hw s (by rw [← hl]; exact partR_lt s hs) z hz, fun a _ b _ h => h⟩
  exact t.ans (fun p hp => by simp [usedZ]; exact .inr (.inl ⟨p.2, hp⟩)) (fun z hz => by simp [usedZ, hz]) hA.suits (by omega) (by rw [List.map_id, hp r hr]; rfl)
/-- a part alone -/
theorem ans_part (hA : A.Ok names order) {p : List Nat} (hp : p ∈ partsT (keyOf names rows bys) rows.length) : ansL names (p.map (vr rows)) bys order A = p.map (ansA names rows bys order A) := by
  have F := parts_facts hp
  have vp : ∀ k, k < p.length → vr (p.map (vr rows)) k = vr rows (p.getD k 0) := fun k hk => by
    unfold vr
    rw [List.getD_eq_getElem?_getD, List.getElem?_map, List.getElem?_eq_getElem hk, getD_of_lt hk]; rfl
  have ky : ∀ k, k < p.length → keyOf names (p.map (vr rows)) bys k = keyOf names rows bys (p.getD k 0) := fun k hk => keyOf_eq fun z _ => by rw [vp k hk]
  obtain ⟨g, hg, e⟩ := List.mem_map.mp hp
  have G := grp_ok (keyOf names rows bys) rows.length
  have kp : ∀ r ∈ p, keyOf names rows bys r = g.1 := fun r hr => ((G.each g hg).2.2.2 r (by rw [e]; exact hr)).2
  have one : ∀ r, r < p.length → partR (keyOf names (p.map (vr rows)) bys) (p.map (vr rows)).length r = List.range p.length := fun r hr => by
    unfold partR
    rw [List.length_map]
    refine List.filter_eq_self.mpr fun s hs => decide_eq_true ?_
    have hs := List.mem_range.mp hs
    rw [ky s hs, ky r hr, kp _ (getD_mem hs), kp _ (getD_mem hr)]
  have rng : (List.range p.length).map (fun k => p.getD k 0) = p := (as_range p 0).symm
  have fin : ∀ k, k < p.length → ansA names (p.map (vr rows)) bys order A k = ansA names rows bys order A (p.getD k 0) := fun k hk => by
    have t : Tra names rows names (p.map (vr rows)) (usedZ bys order A) (partR (keyOf names (p.map (vr rows)) bys) (p.map (vr rows)).length k) (fun k => p.getD k 0) := by
      rw [one k hk]
      refine ⟨fun s hs z hz => by rw [vp s (List.mem_range.mp hs)], fun a ha b hb h => ?_⟩
      have ha := List.mem_range.mp ha
      have hb := List.mem_range.mp hb
      rw [getD_of_lt ha, getD_of_lt hb] at h
      exact (List.getElem_inj (F.2.1.imp fun h => Nat.ne_of_lt h)).mp h
    refine t.ans (fun p hp => by simp [usedZ]; exact .inr (.inl ⟨p.2, hp⟩)) (fun z hz => by simp [usedZ, hz]) hA.suits (by simpa using hk) ?_
    rw [one k hk, rng]
    exact grp_part hp (getD_mem hk)
  unfold ansL
  rw [List.length_map]
  conv => rhs; rw [← rng, List.map_map]
  exact List.map_congr_left fun k hk => fin k (List.mem_range.mp hk)
/-- a row put behind that is of another part -/
theorem ans_behind (hA : A.Ok names order) {x : Rw} (hk : ∀ r, r < rows.length → keyOf names (rows ++ [x]) bys rows.length ≠ keyOf names rows bys r) : (ansL names (rows ++ [x]) bys order A).take rows.length = ansL names rows bys order A := by
  have vx : ∀ k, k < rows.length → vr (rows ++ [x]) k = vr rows k := fun k hk => by
    unfold vr
    rw [List.getD_eq_getElem?_getD, List.getD_eq_getElem?_getD, List.getElem?_append_left hk]
  have ky : ∀ k, k < rows.length → keyOf names (rows ++ [x]) bys k = keyOf names rows bys k := fun k hk => keyOf_eq fun z _ => by rw [vx k hk]
  unfold ansL
  rw [List.length_append, List.length_singleton, List.range_succ, List.map_append, List.take_append_of_le_length (by simp), List.take_of_length_le (by simp)]
  refine List.map_congr_left fun r hr => ?_
  have hr := List.mem_range.mp hr
  have hp : partR (keyOf names (rows ++ [x]) bys) (rows ++ [x]).length r = partR (keyOf names rows bys) rows.length r := by
    unfold partR
    rw [List.length_append, List.length_singleton, List.range_succ, List.filter_append]
    have : ([rows.length].filter fun s => decide (keyOf names (rows ++ [x]) bys s = keyOf names (rows ++ [x]) bys r)) = [] := by
      rw [List.filter_eq_nil_iff]
      intro s hs
      simp at hs
      subst hs
      rw [ky r hr]
      simpa using hk r hr
    rw [this, List.append_nil]
    refine List.filter_congr fun s hs => ?_
    rw [ky s (List.mem_range.mp hs), ky r hr]
  have t : Tra names rows names (rows ++ [x]) (usedZ bys order A) (partR (keyOf names (rows ++ [x]) bys) (rows ++ [x]).length r) id := by
    rw [hp]
    exact ⟨fun s hs z hz => by rw [vx s (partR_lt s hs)]; rfl, fun a _ b _ h => h⟩
  exact t.ans (fun p hp => by simp [usedZ]; exact .inr (.inl ⟨p.2, hp⟩)) (fun z hz => by simp [usedZ, hz]) hA.suits (by simp; omega) (by rw [List.map_id, hp]; rfl)
/-! ### columns -/
def rot {α : Type} (t : Nat) (l : List α) : List α := l.drop t ++ l.take t
theorem rot_len {α : Type} {t : Nat} {l : List α} : (rot t l).length = l.length := by unfold rot; simp; omega
theorem rot_perm {α : Type} {t : Nat} {l : List α} : (rot t l).Perm l := by
  unfold rot
  exact List.perm_append_comm.trans (by rw [List.take_append_drop])
theorem rot_at {row : Rw} {z : Str} {t : Nat} (ht : t ≤ names.length) (nd : names.Nodup) (hz : z ∈ names) (hl : row.length = names.length) : ge (rot t row) ((rot t names).idxOf z) = ge row (names.idxOf z) := by
  have hi := List.idxOf_lt_length_iff.mpr hz
  have nd2 : (rot t names).Nodup := rot_perm.nodup_iff.mpr nd
  have at1 : names[names.idxOf z] = z := List.getElem_idxOf hi
  by_cases h : t ≤ names.idxOf z
  · have q : (rot t names).idxOf z = names.idxOf z - t := by
      have e? : (rot t names)[names.idxOf z - t]? = some z := by
        unfold rot
        rw [List.getElem?_append_left (by simp; omega), List.getElem?_drop, show t + (names.idxOf z - t) = names.idxOf z by omega, List.getElem?_eq_getElem hi, at1]
      obtain ⟨hlt, e⟩ := List.getElem?_eq_some_iff.mp e?
      have := nd2.idxOf_getElem _ hlt
      rwa [e] at this
    rw [q]
    unfold ge rot
    rw [List.getD_eq_getElem?_getD, List.getD_eq_getElem?_getD, List.getElem?_append_left (by simp; omega), List.getElem?_drop, show t + (names.idxOf z - t) = names.idxOf z by omega]
  · have q : (rot t names).idxOf z = names.length - t + names.idxOf z := by
      have e? : (rot t names)[names.length - t + names.idxOf z]? = some z := by
        unfold rot
        rw [List.getElem?_append_right (by simp), List.length_drop, show names.length - t + names.idxOf z - (names.length - t) = names.idxOf z by omega, List.getElem?_take_of_lt (by omega), List.getElem?_eq_getElem hi, at1]
      obtain ⟨hlt, e⟩ := List.getElem?_eq_some_iff.mp e?
      have := nd2.idxOf_getElem _ hlt
      rwa [e] at this
    rw [q]
    unfold ge rot
    rw [List.getD_eq_getElem?_getD, List.getD_eq_getElem?_getD, List.getElem?_append_right (by simp; omega), List.length_drop, hl, show names.length - t + names.idxOf z - (names.length - t) = names.idxOf z by omega, List.getElem?_take_of_lt (by omega)]
theorem vr_map {f : Rw → Rw} {r : Nat} (h : r < rows.length) : vr (rows.map f) r = f (vr rows r) := by
  unfold vr
  rw [List.getD_eq_getElem?_getD, List.getD_eq_getElem?_getD, List.getElem?_map, List.getElem?_eq_getElem h]; rfl
theorem vr_mem {r : Nat} (h : r < rows.length) : vr rows r ∈ rows := by
  unfold vr
  rw [List.getD_eq_getElem?_getD, List.getElem?_eq_getElem h]
  exact List.getElem_mem h
/-- columns turned -/
theorem ans_rot (T : Tab names rows) (hb : ∀ z ∈ bys, z ∈ names) (ho : ∀ p ∈ order, p.1 ∈ names) (hA : A.Ok names order) {t : Nat} (ht : t ≤ names.length) : ansL (rot t names) (rows.map (rot t)) bys order A = ansL names rows bys order A := by
  refine ans_same hA (by simp) fun r hr z hz => ?_
  have zn : z ∈ names := by
    simp [usedZ] at hz
    rcases hz with h | ⟨w, h⟩ | h
    · exact hb z h
    · exact ho (z, w) h
    · exact hA.nms z h
  rw [vr_map hr]
  exact rot_at ht T.nd zn (T.wid _ (vr_mem hr))
def setC (k : Nat) (x : Option Int) (r : Rw) : Rw := r.take k ++ [x] ++ r.drop (k + 1)
theorem setC_at {k j : Nat} {x : Option Int} {r : Rw} (hk : k < r.length) (h : j ≠ k) : ge (setC k x r) j = ge r j := by
  have e : setC k x r = r.set k x := by
    unfold setC
    rw [List.set_eq_take_append_cons_drop, if_pos hk]; simp
  rw [e]
  unfold ge
  rw [List.getD_eq_getElem?_getD, List.getD_eq_getElem?_getD, List.getElem?_set_ne (Ne.symm h)]
theorem setC_len {k : Nat} {x : Option Int} {r : Rw} (hk : k < r.length) : (setC k x r).length = r.length := by unfold setC; simp; omega
/-- a column that is not asked for altered -/
theorem ans_setC (T : Tab names rows) (hA : A.Ok names order) {k : Nat} (hk : k < names.length) {x : Option Int} (hn : names[k] ∉ usedZ bys order A) : ansL names (rows.map (setC k x)) bys order A = ansL names rows bys order A := by
  refine ans_same hA (by simp) fun r hr z hz => ?_
  rw [vr_map hr]
  refine setC_at (by rw [T.wid _ (vr_mem hr)]; exact hk) fun e => ?_
  have hzn : names.idxOf z < names.length := by omega
  have : names[names.idxOf z] = z := List.getElem_idxOf hzn
  simp only [e] at this
  exact hn (by rw [this]; exact hz)
end
end Com

set_option Elab.async false
set_option linter.all false
set_option maxRecDepth 100000
set_option maxHeartbeats 4000000
/-! k03: what is told. -/
namespace Com
open PySem PySem.Spec L2 DL
theorem if_ok {c : M Bool} {f g : ST} {e : DL.LE} {b : Bool} (h : c e = .ok b e) : sIf c f g e = if b = true then f e else g e := by
  unfold sIf sE
  rw [h]
  cases b <;> rfl
theorem set_ok {i : Nat} {g : Fn} {f : M (List D)} {e : DL.LE} {ds : List D} {c : Cell} (h : f e = .ok ds e) (hg : g ds = .ok c) (hi : i < e.length) : sSet i (mCall g f) e = .nx (e.set i (some c)) := by
  unfold sSet sE mCall
  simp [DL.bnd, h, hg, stC, hi, mRf]
theorem set_ex {i : Nat} {g : Fn} {f : M (List D)} {e : DL.LE} {ds : List D} {c : Str} (h : f e = .ok ds e) (hg : g ds = .ex c) : sSet i (mCall g f) e = .ex c e := by
  unfold sSet sE mCall
  simp [DL.bnd, h, hg, mRf]
theorem try_nx {ik ie : Nat} {f : ST} {e e' : DL.LE} {p : Pst} (h : f e = .nx e') : Pq (sTry ik ie f e) p = p.nx e' := by
  unfold sTry
  rw [h, pqc_nx]
theorem try_ex {ik ie : Nat} {f : ST} {e e' : DL.LE} {c : Str} {p : Pst} (h : f e = .ex c e') (hc : c ∈ kinL) (h1 : ik < e'.length) (h2 : ie < e'.length) (ne : ik ≠ ie) : Pq (sTry ik ie f e) p = p.nx ((e'.set ik (some (.ow ((kinB c).map .bool)))).set ie none) := by
  unfold sTry
  rw [h]
  simp only
  rw [if_pos ⟨hc, h1, h2, ne⟩, pqc_nx]
def kinD (c : Str) : D := .list ((kinB c).map .bool)
section
variable {names : List Str} {rows : List Rw} {d1 d2 d3 d4 : D}
theorem told3_ok {w : Int} {fs : List D} {c : Cell}
    (hw : (w = 0 ∧ g_ordered [d1, d2, d3] = .ok c) ∨ (w = 1 ∧ g_ties_of [d1, d2, d3, d4] = .ok c)) (hc : c = .ow fs) :
    g_law_told_k03 [.int w, d1, d2, d3, d4] = .ok (.fz (.tuple [.list fs, .list []])) := by
  subst hc
  refine Okx.eq (okx_run ?_)
  simp only [b_law_told_k03, pq_seq]
  simp [envF]
  rcases hw with ⟨rfl, h⟩ | ⟨rfl, h⟩
  · rw [try_nx (e' := [some (.fz (.int 0)), some (.fz d1), some (.fz d2), some (.fz d3), some (.fz d4), some (.ow fs), some (.ow []), none]) (by
      rw [if_ok (b := true) (by rfl)]
      exact set_ok (ds := [d1, d2, d3]) (by rfl) h (by simp))]
    simp
  · rw [try_nx (e' := [some (.fz (.int 1)), some (.fz d1), some (.fz d2), some (.fz d3), some (.fz d4), some (.ow fs), some (.ow []), none]) (by
      rw [if_ok (b := false) (by rfl)]
      exact set_ok (ds := [d1, d2, d3, d4]) (by rfl) h (by simp))]
    simp
theorem told3_ex {w : Int} {c : Str} (hk : c ∈ kinL)
    (hw : (w = 0 ∧ g_ordered [d1, d2, d3] = .ex c) ∨ (w = 1 ∧ g_ties_of [d1, d2, d3, d4] = .ex c)) :
    g_law_told_k03 [.int w, d1, d2, d3, d4] = .ok (.fz (.tuple [.none, kinD c])) := by
  refine Okx.eq (okx_run ?_)
  simp only [b_law_told_k03, pq_seq]
  simp [envF]
  rcases hw with ⟨rfl, h⟩ | ⟨rfl, h⟩
  · rw [try_ex (e' := [some (.fz (.int 0)), some (.fz d1), some (.fz d2), some (.fz d3), some (.fz d4), some (.fz .none), some (.ow []), none]) (c := c) (by
      rw [if_ok (b := true) (by rfl)]
      exact set_ex (ds := [d1, d2, d3]) (by rfl) h) hk (by simp) (by simp) (by decide)]
    simp [kinD]
  · rw [try_ex (e' := [some (.fz (.int 1)), some (.fz d1), some (.fz d2), some (.fz d3), some (.fz d4), some (.fz .none), some (.ow []), none]) (c := c) (by
      rw [if_ok (b := false) (by rfl)]
      exact set_ex (ds := [d1, d2, d3, d4]) (by rfl) h) hk (by simp) (by simp) (by decide)]
    simp [kinD]
theorem due_kin_ok : g_law_due_kin [.str "NoName"] = .ok (.ow ((kinB "NoName").map .bool)) := by
  first | rfl | kernel_rfl
theorem kin_ne : dNe (kinD "NoName") (kinD "NoName") = some (.fz (.bool false)) := by first | rfl | kernel_rfl
theorem nil_ne : dNe (.list []) (.list []) = some (.fz (.bool false)) := by first | rfl | kernel_rfl
end
end Com

set_option Elab.async false
set_option linter.all false
set_option maxRecDepth 100000
set_option maxHeartbeats 4000000
/-! k03: a case. -/
namespace Com
open PySem PySem.Spec L2 DL
section
variable {names : List Str} {rows : List Rw} {z : Str}
theorem tab_fold : PyData.tuple [.tuple (names.map .str), .list (rows.map dR)] = tabD names rows := rfl
theorem setT_tab {is : List Nat} {e : DL.LE} : setT is (tabD names rows) e = setAll is [.tuple (names.map .str), .list (rows.map dR)] e := rfl
theorem nice_rowsK {k : Nat} : NiceAll (k + 1) (rows.map dR) := fun d hd => by
  obtain ⟨r, _, rfl⟩ := List.mem_map.mp hd
  exact Nice.tuple fun d hd => by
    obtain ⟨w, _, rfl⟩ := List.mem_map.mp hd
    exact nice_dW
theorem nice_tab (T : Tab names rows) : Nice 64 (tabD names rows) := Nice.tuple (.cons ((Nice.tuple (nice_strs (k := 0) T.sok)).mono (by omega)) (.cons ((Nice.list (k := 62) nice_rowsK).mono (by omega)) .nil))
theorem ne_tab (T : Tab names rows) : dNe (tabD names rows) (tabD names rows) = some (.fz (.bool false)) := by
  rw [dNe_nice (nice_tab T) (nice_tab T)]; simp
theorem ne_nDs {p q : List Nat} : dNe (.list (p.map nD)) (.list (q.map nD)) = some (.fz (.bool (!decide (p = q)))) := by
  rw [dNe_nice (Nice.list (k := 63) nice_nDs) (Nice.list (k := 63) nice_nDs)]
  have : PyData.list (p.map nD) = PyData.list (q.map nD) ↔ p = q := by
    constructor
    · intro h
      injection h with h
      exact (List.map_inj_right (fun a b e => nD_inj e)).mp h
    · intro h; rw [h]
  simp [this]
theorem alk_not {os : List OP} {a b : Rw} : decide (alk os b a) = (!ahd os a b && !ahd os b a) := by
  by_cases h : alk os b a
  · simp [h, ahd_alk h, ahd_alk (alk_symm h)]
  · cases q : ahd os b a with
    | true => simp [h]
    | false => simp [h, ahd_tri h q]
def ICase (names : List Str) (rows : List Rw) (bys : List Str) (order : List (Str × Str)) (picks : List Int) (b : Bool) (e : DL.LE) : Prop := ∃ k7 k8 k9 k10 k11 k12 k13 : Option Cell, e = [some (.fz (tabD names rows)), some (.fz (.tuple (bys.map .str))), some (.fz (.tuple (order.map dP))), some (.fz (.list (picks.map .int))),
  some (.fz (.tuple (names.map .str))), some (.fz (.list (rows.map dR))), some (.fz (.bool b)), k7, k8, k9, k10, k11, k12, k13, none, none, none]
theorem law_case_ok (T : Tab names rows) {bys : List Str} (hb : ∀ z ∈ bys, z ∈ names) (hbl : bys.length ≤ 1000) {order : List (Str × Str)} (ho : ∀ p ∈ order, Sok p.1 ∧ WayOk p) (hol : order.length ≤ 1000) {picks : List Int} (hpl : picks.length = 4) :
    g_law_case_right [tabD names rows, .tuple (bys.map .str), .tuple (order.map dP), .list (picks.map .int)] = .ok (.fz (.bool true)) := by
  have hrr := T.r200
  have hs1 : ∀ p ∈ order, Sok p.1 := fun p h => (ho p h).1
  have hs2 : ∀ p ∈ order, Sok p.2 := fun p h => (ho p h).2.sok
  have nf : NiceAll 63 ((order.filter fun p => !decide (p.1 ∈ names)).map fun p => PyData.str p.1) := fun d hd => by
    obtain ⟨p, hp, rfl⟩ := List.mem_map.mp hd
    exact nice_str (hs1 p ((List.mem_filter.mp hp).1))
  obtain ⟨b, hbd, hb1, hb2⟩ : ∃ b : Bool, (!((order.filter fun p => !decide (p.1 ∈ names)).map fun p => PyData.str p.1).isEmpty) = b ∧ (b = true → ∃ p ∈ order, p.1 ∉ names) ∧ (b = false → ∀ p ∈ order, p.1 ∈ names) := by
    refine ⟨_, rfl, fun h => ?_, fun h => ?_⟩
    · simp at h
      obtain ⟨a, ⟨c, h1⟩, h2⟩ := h
      exact ⟨(a, c), h1, h2⟩
    · simp at h
      exact fun p hp => h p.1 p.2 hp
  refine Okx.eq (okx_run ?_)
  simp only [b_law_case_right, pq_seq, pq_un, pq_set]
  simp [envF, setT_tab]
  refine wp_comp dP (fun p => .str p.1) (fun p => !decide (p.1 ∈ names)) order ?_
  simp
  refine ⟨by omega, ?_, fun x y hxy => by
    have := T.notIn (hs1 _ hxy)
    simp [dP, this]⟩
  have dn := dNe_nil nf
  rw [hbd] at dn
  simp [dn]
  refine pq_forI (fun i e => ICase names rows bys order picks b e) ((partsT (keyOf names rows bys) rows.length).map lsD) ?_ ?_ ?_
  · simp
    refine (law_parts_ok T hb hbl).imp (fun c hc => ?_) (fun _ h => h)
    refine wp_dat_of hc ?_
    simp
    exact ⟨none, none, none, none, none, none, none, rfl⟩
  · rintro i e ⟨k7, k8, k9, k10, k11, k12, k13, rfl⟩ hi
    simp at hi
    rw [List.getElem_map]
    have hmem := List.getElem_mem hi
    generalize (partsT (keyOf names rows bys) rows.length)[i] = p at hmem
    have F := parts_facts hmem
    have pl : 0 < p.length := List.length_pos_iff.mpr F.1
    have g3 := mod_in (n := gi picks 3) (m := p.length) (by omega)
    have ixp := dIdx_list_in (f := nD) (xs := p) g3.1 (by omega)
    have rm : p[(gi picks 3 % p.length).toNat]'(by omega) ∈ p := List.getElem_mem _
    generalize p[(gi picks 3 % p.length).toNat]'(by omega) = r at ixp rm
    have np : dNe (.list (p.map nD)) (.list (p.map nD)) = some (.fz (.bool false)) := by rw [ne_nDs]; simp
    simp [lsD, tab_fold]
    cases hbv : b with
    | true =>
      have h0 := told3_ex (d4 := .int 0) (w := 0) (by decide) (.inl ⟨rfl, ordered_out T hs1 (hb1 hbv) hol (d := .list (p.map nD))⟩)
      have h1 : g_law_told_k03 [.int 1, tabD names rows, .tuple (bys.map .str), .tuple (order.map dP), nD r] = .ok (.fz (.tuple [.none, kinD "NoName"])) := told3_ex (w := 1) (by decide) (.inr ⟨rfl, ties_of_out T hb hbl hs1 (hb1 hbv) hol hmem rm⟩)
      have kn : dNe (kinD "NoName") (.list ((kinB "NoName").map .bool)) = some (.fz (.bool false)) := kin_ne
      rw [h0]
      simp [ne_tab T, np, due_kin_ok, kn, dIdx_intsL, hpl, ixp, pl]
      rw [h1]
      simp [due_kin_ok, kn]
      exact ⟨_, _, _, _, _, _, _, rfl⟩
    | false =>
      have hin := hb2 hbv
      have h0 := told3_ok (d4 := .int 0) (w := 0) (.inl ⟨rfl, ordered_ok T hs2 hin hol F.2.1 F.2.2.2⟩) rfl
      have h1 : g_law_told_k03 [.int 1, tabD names rows, .tuple (bys.map .str), .tuple (order.map dP), nD r] = .ok (.fz (.tuple [.list ((p.filter fun x => decide (alk (osT names order) (vr rows r) (vr rows x))).map nD), .list []])) := told3_ok (w := 1) (.inr ⟨rfl, ties_of_ok T hb hbl hin hol hmem rm⟩) rfl
      have lr := line_right_ok T hs2 hin F.2.1 (by omega) F.2.2.2
      unfold lsD at lr
      rw [h0]
      simp [ne_tab T, np, nil_ne, lr, dIdx_intsL, hpl, ixp, pl]
      rw [h1]
      simp [nil_ne]
      refine wp_comp nD nD (fun x => !ahd (osT names order) (vr rows x) (vr rows r)) p ?_
      simp
      refine ⟨by omega, ?_, fun x hx => ?_⟩
      · refine wp_comp nD nD (fun x => !ahd (osT names order) (vr rows r) (vr rows x)) (p.filter fun x => !ahd (osT names order) (vr rows x) (vr rows r)) ?_
        have e : ((p.filter fun x => !ahd (osT names order) (vr rows x) (vr rows r)).filter fun x => !ahd (osT names order) (vr rows r) (vr rows x)) = p.filter fun x => decide (alk (osT names order) (vr rows r) (vr rows x)) := by
          rw [List.filter_filter]
          refine List.filter_congr fun x _ => ?_
          rw [alk_not, Bool.and_comm]
        have len2 : (p.filter fun x => !ahd (osT names order) (vr rows x) (vr rows r)).length ≤ p.length := List.length_filter_le _ _
        simp only [e]
        simp [ne_nDs, nil_ne]
        refine ⟨by omega, ⟨_, _, _, _, _, _, _, rfl⟩, fun x hx _ => ?_⟩
        have := law_ahead_ok T hs2 hin (F.2.2.2 r rm) (F.2.2.2 x hx)
        simp [nD, this]
      · have := law_ahead_ok T hs2 hin (F.2.2.2 x hx) (F.2.2.2 r rm)
        simp [nD, this]
  · rintro e ⟨k7, k8, k9, k10, k11, k12, k13, rfl⟩
    simp
end
end Com

set_option Elab.async false
set_option linter.all false
set_option maxRecDepth 100000
set_option maxHeartbeats 4000000
/-! k39: the law. -/
namespace Com
open PySem PySem.Spec L2 DL
theorem law_a_table_wb {ns : List Int} {k most : Nat} (hm : most ≤ 200) :
    Okx (g_law_a_table [.list (ns.map .int), .int k, .int most]) (fun c => ∃ names rows, c = .fz (tabD names rows) ∧ Tab names rows ∧ (most ≤ 24 → rows.length ≤ 24) ∧ rows.length ≤ 200 ∧ ∀ r ∈ rows, ∀ w ∈ r, WOk w) noX := by
  have e : g_law_a_table = g_law_table := rfl
  rw [e]
  exact law_table_wb hm
theorem ne_Ws {a b : List (Option Int)} : dNe (.list (a.map dW)) (.list (b.map dW)) = some (.fz (.bool (!decide (a = b)))) := by
  have n : ∀ l : List (Option Int), NiceAll 63 (l.map dW) := fun l d hd => by
    obtain ⟨w, _, rfl⟩ := List.mem_map.mp hd
    exact nice_dW
  rw [dNe_nice (Nice.list (n a)) (Nice.list (n b))]
  have : PyData.list (a.map dW) = PyData.list (b.map dW) ↔ a = b := by
    constructor
    · intro h
      injection h with h
      exact dWs_inj h
    · intro h; rw [h]
  simp [this]
theorem dIdx_Ws {ws : List (Option Int)} {i : Nat} (h : i < ws.length) : dIdx (.list (ws.map dW)) (.int i) = some (.fz (dW (ws.getD i none))) := by
  rw [dIdx_list_nat h, List.getD_eq_getElem?_getD, List.getElem?_eq_getElem h]; rfl
section
variable {names : List Str} {rows : List Rw} {bys : List Str} {order : List (Str × Str)} {A : Msr}
theorem Tab.sub (T : Tab names rows) {rows' : List Rw} (h1 : ∀ r ∈ rows', r.length = names.length) (h2 : rows'.length ≤ 200) : Tab names rows' := ⟨T.n1, T.n8, T.nd, T.nok, h1, h2⟩
theorem ansL_at {r : Nat} (h : r < rows.length) : (ansL names rows bys order A).getD r none = ansA names rows bys order A r := by
  unfold ansL
  rw [List.getD_eq_getElem?_getD, List.getElem?_map, List.getElem?_range h]; rfl
theorem ansL_len : (ansL names rows bys order A).length = rows.length := by simp [ansL]
/-- the state, from the parts on -/
def S39 (ns : List Int) (names : List Str) (rows : List Rw) (picks : List Int) (bys : List Str) (order : List (Str × Str)) (A : Msr) (zs : Option Cell) (k9 k10 k11 k12 k13 k14 k15 k16 : Option Cell) : DL.LE :=
  [some (.fz (.list (ns.map .int))), some (.fz (tabD names rows)), some (.fz (.tuple (names.map .str))), some (.fz (.list (rows.map dR))), some (.fz (.list (picks.map .int))), some (.fz (askD bys order A)), zs, some (.fz (.tuple (bys.map .str))), some (.ow ((ansL names rows bys order A).map dW)), k9, k10, k11, k12, k13, k14, k15, k16, none, none]
def I39 (ns : List Int) (names : List Str) (rows : List Rw) (picks : List Int) (bys : List Str) (order : List (Str × Str)) (A : Msr) (e : DL.LE) : Prop := ∃ k6 k9 k10 k11 k12 k13 k14 k15 k16 : Option Cell, e = S39 ns names rows picks bys order A k6 k9 k10 k11 k12 k13 k14 k15 k16
structure Ask39 (names : List Str) (bys : List Str) (order : List (Str × Str)) (A : Msr) : Prop where
  bl : bys.length ≤ 1000
  bm : ∀ z ∈ bys, z ∈ names
  ol : order.length ≤ 1000
  om : ∀ p ∈ order, p.1 ∈ names
  ow : ∀ p ∈ order, WayOk p
  ok : A.Ok names order
theorem asked_39 (T : Tab names rows) (K : Ask39 names bys order A) : g_asked [tabD names rows, askD bys order A] = .ok (.ow ((ansL names rows bys order A).map dW)) := asked_A T K.bm K.bl K.ow K.om K.ol K.ok
theorem part_turn (T : Tab names rows) (K : Ask39 names bys order A) {ns picks : List Int} {k6 k9 k11 k12 k13 k14 k15 k16 : Option Cell} {p : List Nat} (hp : p ∈ partsT (keyOf names rows bys) rows.length) {q : Pst} (hx : q.ex = noX) (hq : ∀ e, I39 ns names rows picks bys order A e → q.nx e) (h9 : ∃ xs, k9 = some (.ow xs)) :
    Pq (b_law_k39_11 (S39 ns names rows picks bys order A k6 k9 (some (.fz (lsD p))) k11 k12 k13 k14 k15 k16)) { q with nx := fun e => ∃ k10 k14 k16, e = S39 ns names rows picks bys order A k6 k9 k10 k11 k12 k13 k14 k15 k16 } := by
  have F := parts_facts hp
  have r2 := T.r200
  have T' : Tab names (p.map (vr rows)) := T.sub (fun r hr => by
    obtain ⟨k, hk, rfl⟩ := List.mem_map.mp hr
    exact T.wid _ (vr_mem (F.2.2.2 k hk))) (by simp; omega)
  have ak := asked_39 T' K
  rw [ans_part K.ok hp] at ak
  have tf : PyData.tuple [.tuple (names.map .str), .list ((p.map (vr rows)).map dR)] = tabD names (p.map (vr rows)) := rfl
  simp [b_law_k39_11, b_law_k39_9, b_law_k39_10, S39, hx]
  refine wp_compM nD (fun k => dR (vr rows k)) p ?_
  simp [lsD]
  refine ⟨by omega, ?_, fun k hk => ?_⟩
  · have e : p.map (fun k => dR (vr rows k)) = (p.map (vr rows)).map dR := by rw [List.map_map]; rfl
    rw [e, tf, ak]
    simp
    refine wp_compM nD (fun k => dW (ansA names rows bys order A k)) p ?_
    simp
    refine ⟨by omega, ?_, fun k hk => ?_⟩
    · have e2 : p.map (fun k => dW (ansA names rows bys order A k)) = (p.map (ansA names rows bys order A)).map dW := by rw [List.map_map]; rfl
      have e3 : dNe (.list (p.map (dW ∘ ansA names rows bys order A))) (.list (p.map (dW ∘ ansA names rows bys order A))) = some (.fz (.bool false)) := by
        have := ne_Ws (a := p.map (ansA names rows bys order A)) (b := p.map (ansA names rows bys order A))
        simpa using this
      have e4 : dNe (.list (p.map (dW ∘ ansA names rows bys order A))) (.list (p.map fun k => dW (ansA names rows bys order A k))) = some (.fz (.bool false)) := e3
      simp [e3, e4]
    · have kr := F.2.2.2 k hk
      have ix : dIdx (.list ((ansL names rows bys order A).map dW)) (.int k) = some (.fz (dW (ansA names rows bys order A k))) := by
        rw [dIdx_Ws (by rw [ansL_len]; exact kr), ansL_at kr]
      simp [nD, ix]
  · have kr := F.2.2.2 k hk
    simp [nD, dIdx_row kr]
theorem ne_tupnil {zs : List Str} (h : ∀ z ∈ zs, Sok z) : dNe (.tuple (zs.map .str)) (.tuple []) = some (.fz (.bool (!zs.isEmpty))) := by
  rw [dNe_nice ((Nice.tuple (nice_strs (k := 0) h)).mono (by omega)) ((Nice.tuple (k := 0) .nil).mono (by omega))]
  cases zs <;> simp
theorem rep3 {d : D} {j : Nat} (h : j ≤ 1000) : dMul (.tuple [d]) (.int j) = some (.fz (.tuple (List.replicate j d))) := by
  have e : dMul (.tuple [d]) (.int j) = if 1 ≤ [d].length ∧ [d].length ≤ 1000 ∧ 0 ≤ (j : Int) ∧ (j : Int) ≤ 1000 then some (.fz (.tuple (List.replicate (j : Int).toNat [d]).flatten)) else none := rfl
  rw [e, if_pos ⟨by simp, by simp, by omega, by omega⟩, Int.toNat_natCast, List.flatten_replicate_singleton]
def row50 (n at_ : Nat) : Rw := List.replicate at_ (some 3) ++ [some 100000000000000000000000000000000000000000000000000] ++ List.replicate (n - at_ - 1) (some 3)
theorem row50_len {n a : Nat} (h : a < n) : (row50 n a).length = n := by unfold row50; simp; omega
theorem row50_at {n a : Nat} : ge (row50 n a) a = some 100000000000000000000000000000000000000000000000000 := by
  unfold row50 ge
  rw [List.append_assoc, List.getD_eq_getElem?_getD, List.getElem?_append_right (by simp)]; simp
theorem row50_eqs {n a : Nat} (ha : a < n) (hn : n ≤ 1000) : dMul (.tuple [.int 3]) (.int a) = some (.fz (.tuple (List.replicate a (.int 3)))) ∧ dMul (.tuple [.int 3]) (.int ((n : Int) - a - 1)) = some (.fz (.tuple (List.replicate (n - a - 1) (.int 3)))) ∧
    dAdd (.tuple (List.replicate a (.int 3))) (.tuple [.int 100000000000000000000000000000000000000000000000000]) = some (.fz (.tuple (List.replicate a (.int 3) ++ [.int 100000000000000000000000000000000000000000000000000]))) ∧
    dAdd (.tuple (List.replicate a (.int 3) ++ [.int 100000000000000000000000000000000000000000000000000])) (.tuple (List.replicate (n - a - 1) (.int 3))) = some (.fz (dR (row50 n a))) := by
  have e1 : dMul (.tuple [.int 3]) (.int a) = some (.fz (.tuple (List.replicate a (.int 3)))) := rep3 (by omega)
  have e2 : dMul (.tuple [.int 3]) (.int ((n : Int) - a - 1)) = some (.fz (.tuple (List.replicate (n - a - 1) (.int 3)))) := by
    have := rep3 (d := .int 3) (j := n - a - 1) (by omega)
    rwa [show ((n - a - 1 : Nat) : Int) = (n : Int) - a - 1 by omega] at this
  refine ⟨e1, e2, ?_, ?_⟩
  · rw [dAdd_tuple, if_pos (by rw [sizeLine_eq]; simp; omega)]
  · rw [dAdd_tuple, if_pos (by rw [sizeLine_eq]; simp; omega)]
    unfold dR row50
    simp [dW]
theorem behind_all (T : Tab names rows) (hA : A.Ok names order) (wb : ∀ r ∈ rows, ∀ w ∈ r, WOk w) {z : Str} {rest : List Str} (hb : bys = z :: rest) (hz : z ∈ names) :
    (ansL names ((rows ++ [row50 names.length (names.idxOf z)]).take 200) bys order A).take rows.length = ansL names rows bys order A := by
  have r2 := T.r200
  by_cases h : rows.length = 200
  · have e : (rows ++ [row50 names.length (names.idxOf z)]).take 200 = rows := by rw [List.take_append_of_le_length (by omega), List.take_of_length_le (by omega)]
    rw [e, List.take_of_length_le (by simp [ansL])]
  · have e : (rows ++ [row50 names.length (names.idxOf z)]).take 200 = rows ++ [row50 names.length (names.idxOf z)] := List.take_of_length_le (by simp; omega)
    rw [e]
    refine ans_behind hA fun r hr e => ?_
    unfold keyOf at e
    rw [hb, List.map_cons, List.map_cons, List.cons.injEq] at e
    have vn : vr (rows ++ [row50 names.length (names.idxOf z)]) rows.length = row50 names.length (names.idxOf z) := by
      unfold vr
      rw [List.getD_eq_getElem?_getD, List.getElem?_append_right (Nat.le_refl _)]; simp
    have e1 := e.1
    rw [vn, row50_at] at e1
    have mem := vr_mem hr
    have hi : names.idxOf z < (vr rows r).length := by rw [T.wid _ mem]; exact List.idxOf_lt_length_iff.mpr hz
    have gm : ge (vr rows r) (names.idxOf z) ∈ vr rows r := by
      unfold ge
      rw [List.getD_eq_getElem?_getD, List.getElem?_eq_getElem hi]
      exact List.getElem_mem hi
    have := (wb _ mem _ gm _ e1.symm).2
    exact absurd this (by decide)
theorem behind_turn (T : Tab names rows) (K : Ask39 names bys order A) (wb : ∀ r ∈ rows, ∀ w ∈ r, WOk w) {ns picks : List Int} {k6 k9 k10 k11 k12 k13 k14 k15 k16 : Option Cell} {q : Pst} (hx : q.ex = noX) (hq : ∀ k15 k16, q.nx (S39 ns names rows picks bys order A k6 k9 k10 k11 k12 k13 k14 k15 k16)) :
    Pq (b_law_k39_13 (S39 ns names rows picks bys order A k6 k9 k10 k11 k12 k13 k14 k15 k16)) q := by
  have n1 := T.n1
  have n8 := T.n8
  have r2 := T.r200
  have nn := ne_tupnil (zs := bys) fun z hz => T.sok z (K.bm z hz)
  simp only [b_law_k39_13, S39] at hq ⊢
  cases hb : bys with
  | nil =>
    have hq' := hq k15 k16
    rw [hb] at hq' nn
    simp at nn
    simp [nn, hx]
    simpa using hq'
  | cons z rest =>
    have hz : z ∈ names := K.bm z (by rw [hb]; simp)
    have ti := tIndex_names hz
    have ai := List.idxOf_lt_length_iff.mpr hz
    have b0 : dIdx (.tuple (bys.map .str)) (.int 0) = some (.fz (.str z)) := by rw [hb]; exact ix_c _ _
    have bn := behind_all T K.ok wb hb hz
    have wid : ∀ r ∈ (rows ++ [row50 names.length (names.idxOf z)]).take 200, r.length = names.length := fun r hr => by
      rcases List.mem_append.mp (List.mem_of_mem_take hr) with h | h
      · exact T.wid r h
      · simp at h; rw [h, row50_len ai]
    have T' : Tab names ((rows ++ [row50 names.length (names.idxOf z)]).take 200) := T.sub wid (by simp; omega)
    have ak := asked_39 T' K
    rw [← hb]
    have ne : (!bys.isEmpty) = true := by rw [hb]; rfl
    rw [ne] at nn
    obtain ⟨q1, q2, q3, q4⟩ := row50_eqs ai (show names.length ≤ 1000 by omega)
    simp [nn, hx, b0, ti, q1, q2, q3, q4]
    generalize row50 names.length (names.idxOf z) = xr at *
    have cut : cutD (rows.map dR ++ [dR (xr)]) none (some 200) = ((rows ++ [xr]).take 200).map dR := by
      have := cutM_to (f := dR) (xs := rows ++ [xr]) (k := 200)
      simpa using this
    have tf : PyData.tuple [.tuple (names.map .str), .list (((rows ++ [xr]).take 200).map dR)] = tabD names ((rows ++ [xr]).take 200) := rfl
    simp [-List.map_take, -List.map_append, sizeLine_eq, cut, tf]
    refine ⟨by omega, ?_⟩
    rw [ak]
    have cut2 : cutD ((ansL names ((rows ++ [xr]).take 200) bys order A).map dW) none (some (rows.length : Int)) = (ansL names rows bys order A).map dW := by
      rw [cutM_to, bn]
    simp [-List.map_take, cut2, ne_Ws]
    exact hq _ _
theorem law_turned_ok (T : Tab names rows) {t : Nat} (ht : t < names.length) : g_law_turned [tabD names rows, .int t] = .ok (.fz (tabD (rot t names) (rows.map (rot t)))) := by
  have n8 := T.n8
  have r2 := T.r200
  have rl : ∀ r ∈ rows, r.length = names.length := T.wid
  refine Okx.eq (okx_run ?_)
  simp [b_law_turned, envF, setT_tab]
  refine wp_compM dR (fun r => dR (rot t r)) rows ?_
  have c1 : ∀ (l : List D), cutD l (some (t : Int)) none = l.drop t := fun l => cutD_from
  have c2 : ∀ (l : List D), cutD l none (some (t : Int)) = l.take t := fun l => cutD_to
  simp [c1, c2, sizeLine_eq]
  refine ⟨by omega, ?_, fun r hr => ?_⟩
  · refine ⟨by omega, ?_⟩
    unfold tabD
    rw [List.map_map]
    simp [rot]
  · have := rl r hr
    simp [dR, c1, c2, sizeLine_eq]
    refine ⟨by omega, by simp [rot]⟩
theorem Tab.rot (T : Tab names rows) {t : Nat} : Tab (rot t names) (rows.map (rot t)) := by
  refine ⟨by rw [rot_len]; exact T.n1, by rw [rot_len]; exact T.n8, rot_perm.nodup_iff.mpr T.nd, fun z hz => T.nok z (rot_perm.mem_iff.mp hz), fun r hr => ?_, by rw [List.length_map]; exact T.r200⟩
  obtain ⟨r', hr', rfl⟩ := List.mem_map.mp hr
  rw [rot_len, rot_len]; exact T.wid r' hr'
theorem Ask39.rot (K : Ask39 names bys order A) {t : Nat} : Ask39 (rot t names) bys order A :=
  ⟨K.bl, fun z hz => rot_perm.mem_iff.mpr (K.bm z hz), K.ol, fun p hp => rot_perm.mem_iff.mpr (K.om p hp), K.ow, K.ok.of fun z hz => rot_perm.mem_iff.mpr (K.ok.nms z hz)⟩
def exD : Msr → List D
  | .pl (.pieces n) => [.int n]
  | A => A.nms.map .str
theorem exD_ok {A : Msr} : ∃ w, A.mD = .tuple (.str w :: (exD A ++ (match A with | .pl (.back _ k) => [.int k] | .pl (.on_ _ k) => [.int k] | .wi _ (.nth _ k) => [.int k] | _ => []))) ∧ (exD A).length ≤ 1 := by
  cases A with
  | pl m => cases m <;> exact ⟨_, rfl, by simp [exD, Msr.nms, Plc.nms]⟩
  | wi f m => cases m <;> exact ⟨_, rfl, by simp [exD, Msr.nms, Mea.nms]⟩
theorem cut12 {A : Msr} : ∃ r, A.mD = .tuple r ∧ cutD r (some 1) (some 2) = exD A := by
  have cm : ∀ ds : List D, cutD ds (some 1) (some 2) = (ds.drop 1).take 1 := fun ds => cutD_mid (k := 1) (m := 2)
  cases A with
  | pl m => cases m <;> exact ⟨_, rfl, by rw [cm]; rfl⟩
  | wi f m => cases m <;> exact ⟨_, rfl, by rw [cm]; rfl⟩
theorem exD_mem {A : Msr} {z : Str} : PyData.str z ∈ exD A ↔ z ∈ A.nms := by
  cases A with
  | pl m => cases m <;> simp [exD, Msr.nms, Plc.nms]
  | wi f m => cases m <;> simp [exD, Msr.nms, Mea.nms]
def useD (bys : List Str) (order : List (Str × Str)) (A : Msr) : List D := bys.map .str ++ order.map (fun p => .str p.1) ++ exD A
theorem useD_mem {z : Str} : PyData.str z ∈ useD bys order A ↔ z ∈ usedZ bys order A := by
  unfold useD usedZ
  rw [List.mem_append, List.mem_append, List.mem_append, List.mem_append, exD_mem]
  simp
theorem nice_use (T : Tab names rows) (K : Ask39 names bys order A) : NiceAll 63 (useD bys order A) := by
  intro d hd
  unfold useD at hd
  rcases List.mem_append.mp hd with h | h
  · rcases List.mem_append.mp h with h | h
    · obtain ⟨z, hz, rfl⟩ := List.mem_map.mp h
      exact nice_str (T.sok z (K.bm z hz))
    · obtain ⟨p, hp, rfl⟩ := List.mem_map.mp h
      exact nice_str (T.sok _ (K.om p hp))
  · have nm := K.ok.nms
    have go : ∀ z ∈ A.nms, Nice 63 (PyData.str z) := fun z hz => nice_str (T.sok z (nm z hz))
    cases A with
    | pl m =>
      cases m with
      | pieces n => simp [exD] at h; rw [h]; exact Nice.int
      | _ =>
        obtain ⟨z, hz, rfl⟩ := List.mem_map.mp (show d ∈ (Msr.nms (.pl _)).map PyData.str from h)
        exact go z hz
    | wi f m =>
      obtain ⟨z, hz, rfl⟩ := List.mem_map.mp (show d ∈ (Msr.nms (.wi f m)).map PyData.str from h)
      exact go z hz
theorem used_turn (T : Tab names rows) (K : Ask39 names bys order A) {ns picks : List Int} {k6 k9 k10 k11 k12 k13 k14 k15 k16 : Option Cell} {q : Pst} (hx : q.ex = noX) (hq : q.nx (S39 ns names rows picks bys order A k6 k9 k10 (some (.ow (useD bys order A))) k12 k13 k14 k15 k16)) :
    Pq (b_law_k39_15 (S39 ns names rows picks bys order A k6 k9 k10 k11 k12 k13 k14 k15 k16)) q := by
  obtain ⟨r, er, cr⟩ := cut12 (A := A)
  have hbl := K.bl
  have hol := K.ol
  obtain ⟨w, _, el⟩ := exD_ok (A := A)
  have a1 : dIdx (askD bys order A) (.int 1) = some (.fz (.tuple (order.map dP))) := ix_c1 _ _ _
  have a3 : dIdx (askD bys order A) (.int 3) = some (.fz (.tuple r)) := by
    unfold askD
    rw [dIdx_tuple, er]
    have := atI_nat (xs := [PyData.tuple (bys.map .str), .tuple (order.map dP), A.fD, .tuple r]) (k := 3) (by simp)
    rw [show ((3 : Nat) : Int) = 3 from rfl] at this
    rw [this]; rfl
  simp only [b_law_k39_15, S39] at hq ⊢
  simp [hx, a1]
  refine wp_compM dP (fun p => .str p.1) order ?_
  simp [dIdx_dP, sizeLine_eq, a1, a3, cr]
  refine ⟨by omega, by omega, by omega, ?_⟩
  unfold useD at hq
  simpa using hq
theorem idle_turn (T : Tab names rows) (K : Ask39 names bys order A) {ns picks : List Int} {k6 k9 k10 k12 k13 k14 k15 k16 : Option Cell} {q : Pst} (hx : q.ex = noX) (hq : q.nx (S39 ns names rows picks bys order A k6 k9 k10 (some (.ow (useD bys order A))) (some (.ow (((List.range names.length).filter fun k => !decide (names.getD k "" ∈ usedZ bys order A)).map nD))) none k14 k15 k16)) :
    Pq (b_law_k39_16 (S39 ns names rows picks bys order A k6 k9 k10 (some (.ow (useD bys order A))) k12 k13 k14 k15 k16)) q := by
  have n8 := T.n8
  simp only [b_law_k39_16, S39] at hq ⊢
  simp [hx]
  refine wp_comp nD nD (fun k => !decide (names.getD k "" ∈ usedZ bys order A)) (List.range names.length) ?_
  simp [-List.getD_eq_getElem?_getD, wp_range1]
  have e : rangeD 0 names.length = (List.range names.length).map nD := by simp [rangeD, nD, Function.comp_def]
  refine ⟨by simp [sm62]; omega, e, by omega, ?_, fun k hk => ?_⟩
  · simpa [-List.getD_eq_getElem?_getD] using hq
  · have ix : dIdx (.tuple (names.map .str)) (.int k) = some (.fz (.str (names.getD k ""))) := by
      rw [dIdx_tup_nat hk, List.getD_eq_getElem?_getD, List.getElem?_eq_getElem hk]; rfl
    have zn : names.getD k "" ∈ names := by
      rw [List.getD_eq_getElem?_getD, List.getElem?_eq_getElem hk]; exact List.getElem_mem hk
    have ni : dNotInC (.str (names.getD k "")) (.list (useD bys order A)) = some (.fz (.bool (!decide (names.getD k "" ∈ usedZ bys order A)))) := by
      rw [dNotInC_list (nice_str (T.sok _ zn)) (nice_use T K)]
      simp [-List.getD_eq_getElem?_getD, useD_mem]
    simp [-List.getD_eq_getElem?_getD, nD, ix, ni]
theorem idle_at {k : Nat} (T : Tab names rows) (K : Ask39 names bys order A) {ns picks : List Int} (hpl : 12 < picks.length) {k6 k9 k10 k11 k12 k14 k15 k16 : Option Cell} (hk : k < names.length) (hn : names[k] ∉ usedZ bys order A) {q : Pst} (hx : q.ex = noX) (hq : ∀ k6 k16, q.nx (S39 ns names rows picks bys order A k6 k9 k10 k11 k12 (some (.fz (nD k))) k14 k15 k16)) :
    Pq (b_law_k39_19 (S39 ns names rows picks bys order A k6 k9 k10 k11 k12 (some (.fz (nD k))) k14 k15 k16)) q := by
  have r2 := T.r200
  have n8 := T.n8
  have T' : Tab names (rows.map (setC k (some (gi picks 12)))) := T.sub (fun r hr => by
    obtain ⟨r', hr', rfl⟩ := List.mem_map.mp hr
    rw [setC_len (by rw [T.wid r' hr']; exact hk)]; exact T.wid r' hr') (by rw [List.length_map]; exact T.r200)
  have ak := asked_39 T' K
  rw [ans_setC T K.ok hk hn] at ak
  have p12 : dIdx (.list (picks.map .int)) (.int 12) = some (.fz (.int (gi picks 12))) := dIdx_ints (k := 12) hpl
  have tf : PyData.tuple [.tuple (names.map .str), .list ((rows.map (setC k (some (gi picks 12)))).map dR)] = tabD names (rows.map (setC k (some (gi picks 12)))) := rfl
  simp only [b_law_k39_19, b_law_k39_17, b_law_k39_18, S39, pq_seq] at hq ⊢
  simp [hx]
  refine wp_compM dR (fun r => dR (setC k (some (gi picks 12)) r)) rows ?_
  simp
  refine ⟨by omega, ?_, fun r hr => ?_⟩
  · have e : rows.map (fun r => dR (setC k (some (gi picks 12)) r)) = (rows.map (setC k (some (gi picks 12)))).map dR := by rw [List.map_map]; rfl
    rw [e, tf, ak]
    simp [ne_Ws]
    exact hq _ _
  · have rl := T.wid r hr
    have c1 : ∀ (l : List D), cutD l none (some (k : Int)) = l.take k := fun l => cutD_to
    have c2 : ∀ (l : List D), cutD l (some ((k : Int) + 1)) none = l.drop (k + 1) := fun l => by
      rw [show (k : Int) + 1 = ((k + 1 : Nat) : Int) by omega]; exact cutD_from
    simp [dR, nD, c1, c2, sizeLine_eq, p12]
    refine ⟨by omega, by omega, by simp [setC, dW]⟩
theorem ask_39 {bys0 bys : List Str} : PyData.tuple (PyData.tuple (bys.map .str) :: [PyData.tuple (order.map dP), A.fD, A.mD]) = askD bys order A := rfl
theorem parts_loop (T : Tab names rows) (K : Ask39 names bys order A) {ns picks : List Int} {k6 k9 k10 k11 k12 k13 k14 k15 k16 : Option Cell} {q : Pst} (hx : q.ex = noX) {ps : List (List Nat)} (hps : ps = partsT (keyOf names rows bys) rows.length) (h9 : k9 = some (.ow (ps.map lsD))) (hq : ∀ k10 k14 k16, q.nx (S39 ns names rows picks bys order A k6 k9 k10 k11 k12 k13 k14 k15 k16)) :
    Pq (b_law_k39_12 (S39 ns names rows picks bys order A k6 k9 k10 k11 k12 k13 k14 k15 k16)) q := by
  have r2 := T.r200
  have pl := (grp_ok (keyOf names rows bys) rows.length).len
  have pl2 : ps.length ≤ 200 := by rw [hps]; unfold partsT; simp; omega
  have c1 : cutD (ps.map lsD) none (some 3) = (ps.take 3).map lsD := cutM_to (k := 3)
  obtain ⟨tl, c2, c3⟩ : ∃ tl : List (List Nat), cutD (ps.map lsD) (some (-1)) none = tl.map lsD ∧ (∀ p ∈ tl, p ∈ ps) ∧ tl.length ≤ 200 := by
    rw [cutD_map]
    refine ⟨_, rfl, fun p hp => List.mem_of_mem_drop (List.mem_of_mem_take hp), ?_⟩
    simp; omega
  unfold b_law_k39_12
  refine pq_forI (fun n e => ∃ k10 k14 k16, e = S39 ns names rows picks bys order A k6 k9 k10 k11 k12 k13 k14 k15 k16) ((ps.take 3 ++ tl).map lsD) ?_ ?_ ?_
  · rw [h9]
    simp [-List.map_take, -List.map_append, S39, c1, c2, sizeLine_eq]
    exact ⟨by omega, by rw [List.map_append]⟩
  · rintro n e ⟨k10, k14, k16, rfl⟩ hn
    rw [List.getElem_map]
    have hm := List.getElem_mem (show n < (ps.take 3 ++ tl).length by simpa using hn)
    generalize (ps.take 3 ++ tl)[n]'(by simpa using hn) = p at hm
    have hp : p ∈ partsT (keyOf names rows bys) rows.length := by
      rw [← hps]
      rcases List.mem_append.mp hm with h | h
      · exact List.mem_of_mem_take h
      · exact c3.1 p h
    refine ⟨_, rfl, ?_⟩
    have := part_turn (ns := ns) (picks := picks) (k6 := k6) (k9 := k9) (k11 := k11) (k12 := k12) (k13 := k13) (k14 := k14) (k15 := k15) (k16 := k16) T K hp (q := { nx := fun _ => True, rt := q.rt, bk := q.nx, ct := fun e => ∃ k10 k14 k16, e = S39 ns names rows picks bys order A k6 k9 k10 k11 k12 k13 k14 k15 k16, ex := q.ex }) hx (fun _ _ => trivial) ⟨_, h9⟩
    exact this.imp (fun e he => he) (fun _ h => h) (fun _ h => h) (fun _ h => h) (fun _ h => h)
  · rintro e ⟨k10, k14, k16, rfl⟩
    exact hq _ _ _
end
theorem law_true_k39 (ns : List Int) (h : ns.length ≤ 63) : g_law_k39 [.list (ns.map .int)] = .ok (.fz (.bool true)) := by
  refine Okx.eq (okx_run ?_)
  simp [b_law_k39, envF, b_law_k39_0]
  refine (law_a_table_wb (ns := ns) (k := 0) (most := 40) (by omega)).imp (fun c hc => ?_) (fun _ h => h)
  obtain ⟨names, rows, rfl, T, _, _, wb⟩ := hc
  have n1 := T.n1
  have n8 := T.n8
  have r2 := T.r200
  simp [setT_tab, b_law_k39_1, b_law_k39_2]
  refine (cell_at_ok ns 2).imp (fun c hcc => ?_) (fun _ h => h)
  obtain ⟨cell, rfl⟩ := hcc
  simp
  refine (law_a_draws_ok cell 14 1000000 (by decide) (by decide) (by decide)).imp (fun c hc => ?_) (fun _ h => h)
  obtain ⟨picks, rfl, hpl, hpr⟩ := hc
  have p10 := gi_in (k := 10) hpr (by decide)
  have p11 := gi_in (k := 11) hpr (by decide)
  have i10 : dIdx (.list (picks.map .int)) (.int 10) = some (.fz (.int (gi picks 10))) := dIdx_ints (k := 10) (by omega)
  have i11 : dIdx (.list (picks.map .int)) (.int 11) = some (.fz (.int (gi picks 11))) := dIdx_ints (k := 11) (by omega)
  simp [b_law_k39_3]
  refine (law_a_asking38_g nmD_tup n1 (by omega) hpr (by omega)).imp (fun c hc => ?_) (fun _ h => h)
  obtain ⟨bys0, order, A, rfl, K0, _⟩ := hc
  have g10 := mod_in (n := gi picks 10) (m := 3) (by omega)
  obtain ⟨m, hm⟩ := Int.eq_ofNat_of_zero_le g10.1
  simp [b_law_k39_4]
  refine wp_compR (fun d => ∃ z ∈ names, d = .str z) ?_
  have cm : cutD (picks.map .int) (some 8) (some (8 + (m : Int))) = ((picks.drop 8).take m).map .int := by
    have := cutM_mid (f := PyData.int) (xs := picks) (k := 8) (m := 8 + m)
    rwa [show ((8 + m : Nat) : Int) = 8 + (m : Int) by omega, show 8 + m - 8 = m by omega] at this
  simp [i10, hm, cm]
  refine ⟨by omega, ?mm, fun x hx => ?ee⟩
  case ee =>
    obtain ⟨x, _, rfl⟩ := List.mem_map.mp (List.mem_of_mem_drop (List.mem_of_mem_take hx))
    have g2 := mod_in (n := x) (m := names.length) (by omega)
    have ix := dIdx_tuple (ds := names.map PyData.str) (i := x % names.length)
    rw [atI_in g2.1 (by simpa using g2.2)] at ix
    simp at ix
    simp [ix]
    omega
  intro ys hys hyl
  obtain ⟨zs, hzs, hzn⟩ := lift_map (f := PyData.str) (R := fun z => z ∈ names) (ys := ys) fun y hy => by
    obtain ⟨z, hz, e⟩ := hys y hy
    exact ⟨z, e, hz⟩
  subst hzs
  have zl : zs.length ≤ 14 := by simp at hyl; omega
  have a0 : dIdx (askD bys0 order A) (.int 0) = some (.fz (.tuple (bys0.map .str))) := ix_c _ _
  have b0l := K0.bl
  simp [b_law_k39_5, a0, sizeLine_eq]
  refine ⟨by omega, ?_⟩
  have cf : ∀ a b c d : D, cutD [a, b, c, d] (some 1) none = [b, c, d] := fun a b c d => by
    have := cutD_from (ds := [a, b, c, d]) (k := 1)
    exact this
  have ask0 : askD bys0 order A = .tuple [.tuple (bys0.map .str), .tuple (order.map dP), A.fD, A.mD] := rfl
  simp [b_law_k39_6, ask0, cf, sizeLine_eq]
  have K : Ask39 names (bys0 ++ zs) order A := ⟨by simp; omega, fun z hz => by
    rcases List.mem_append.mp hz with h | h
    · exact K0.bm z h
    · exact hzn z h, by have := K0.ol; omega, fun p hp => (K0.om p hp).1, fun p hp => (K0.om p hp).2, K0.ok⟩
  have fold : PyData.tuple [.tuple (bys0.map .str ++ zs.map .str), .tuple (order.map dP), A.fD, A.mD] = askD (bys0 ++ zs) order A := by
    unfold askD; rw [List.map_append]
  rw [← List.map_append] at fold ⊢
  rw [fold]
  generalize bys0 ++ zs = bys at K
  have ak := asked_39 T K
  have po := parts_of_ok T K.bm K.bl
  simp [b_law_k39_7, b_law_k39_8, ak, po]
  have fin20 : ∀ k6 k9 k10 k13 k14 k15 k16 : Option Cell, Pq (b_law_k39_20 (S39 ns names rows picks bys order A k6 k9 k10 (some (.ow (useD bys order A))) (some (.ow (((List.range names.length).filter fun k => !decide (names.getD k "" ∈ usedZ bys order A)).map nD))) k13 k14 k15 k16)) { nx := fun e => Pq (b_law_k39_21 e) { nx := fun _ => False, rt := fun x => x = .fz (.bool true) }, rt := fun x => x = .fz (.bool true) } := by
    intro k6 k9 k10 k13 k14 k15 k16
    generalize hid : ((List.range names.length).filter fun k => !decide (names.getD k "" ∈ usedZ bys order A)) = idle
    have c1 : cutD (idle.map nD) none (some 2) = (idle.take 2).map nD := cutM_to (k := 2)
    unfold b_law_k39_20
    refine pq_forI (fun n e => ∃ k6 k13 k16, e = S39 ns names rows picks bys order A k6 k9 k10 (some (.ow (useD bys order A))) (some (.ow (idle.map nD))) k13 k14 k15 k16) ((idle.take 2).map nD) ?_ ?_ ?_
    · simp [-List.map_take, S39, c1]
    · rintro n e ⟨k6, k13, k16, rfl⟩ hn
      rw [List.getElem_map]
      have hm := List.mem_of_mem_take (List.getElem_mem (show n < (idle.take 2).length by simpa using hn))
      generalize (idle.take 2)[n]'(by simpa using hn) = k at hm
      rw [← hid] at hm
      obtain ⟨hk, hn2⟩ := List.mem_filter.mp hm
      have hk := List.mem_range.mp hk
      have hn3 : names[k] ∉ usedZ bys order A := by
        have e : names.getD k "" = names[k] := by rw [List.getD_eq_getElem?_getD, List.getElem?_eq_getElem hk]; rfl
        rw [e] at hn2
        simpa using hn2
      refine ⟨_, rfl, ?_⟩
      have := idle_at (ns := ns) (picks := picks) (k6 := k6) (k9 := k9) (k10 := k10) (k11 := some (.ow (useD bys order A))) (k12 := some (.ow (idle.map nD))) (k14 := k14) (k15 := k15) (k16 := k16) T K (by omega) hk hn3 (q := { nx := fun e => ∃ k6 k13 k16, e = S39 ns names rows picks bys order A k6 k9 k10 (some (.ow (useD bys order A))) (some (.ow (idle.map nD))) k13 k14 k15 k16, rt := fun x => x = .fz (.bool true), bk := fun e => Pq (b_law_k39_21 e) { nx := fun _ => False, rt := fun x => x = .fz (.bool true) }, ct := fun e => ∃ k6 k13 k16, e = S39 ns names rows picks bys order A k6 k9 k10 (some (.ow (useD bys order A))) (some (.ow (idle.map nD))) k13 k14 k15 k16 }) rfl (fun k6 k16 => ⟨_, _, _, rfl⟩)
      exact this
    · rintro e ⟨k6, k13, k16, rfl⟩
      simp [b_law_k39_21]
  have tn := fun (t : Nat) (ht : t < names.length) => law_turned_ok T ht
  have g11 := mod_in (n := gi picks 11) (m := names.length) (by omega)
  obtain ⟨t, ht⟩ := Int.eq_ofNat_of_zero_le g11.1
  have ht2 : t < names.length := by omega
  have akr := asked_39 (T.rot (t := t)) (K.rot (t := t))
  rw [ans_rot T K.bm K.om K.ok (Nat.le_of_lt ht2)] at akr
  refine parts_loop (ns := ns) (picks := picks) (k6 := _) (k9 := _) (k10 := none) (k11 := none) (k12 := none) (k13 := none) (k14 := none) (k15 := none) (k16 := none) T K rfl rfl rfl fun k10 k14 k16 => ?_
  refine behind_turn T K wb rfl fun k15 k16 => ?_
  show Pq (b_law_k39_14 _) _
  refine pq_mid (fun e => ∃ k6 k9 k10 k11 k12 k14 k15 k16 : Option Cell, e = S39 ns names rows picks bys order A k6 k9 k10 k11 k12 none k14 k15 k16) ?_ ?_
  · simp [b_law_k39_14, S39, i11, ht, tn t ht2, akr, ne_Ws]
    omega
  · rintro e ⟨k6, k9, k10, k11, k12, k14, k15, k16, rfl⟩
    refine used_turn T K rfl ?_
    refine idle_turn T K rfl ?_
    exact fin20 _ _ _ _ _ _ _
end Com

set_option Elab.async false
set_option linter.all false
set_option maxRecDepth 100000
set_option maxHeartbeats 4000000
namespace Law
open PySem PySem.Spec L2 DL Com
abbrev prog : Program := PySem.Challenge.pw_sashtable_k39_whole_parts_alone
def top (i : Nat) : Stmt := PySem.Challenge.pw_sashtable_k39_whole_parts_alone.main.body.getD i (.Pass ⟨0, 0, 0, 0⟩)
abbrev FnP (K : PySem.W.Frag) (x : Str) (st : Stmt) (f : Addr) (fd : FuncData) : Prop := FunD K x x (defArgs st) (defBody st) (defScope st) [] [] f fd
theorem boot_all : bootBuiltins "all" = some (.builtin "all") := by first | rfl | kernel_rfl
theorem boot_divmod : bootBuiltins "divmod" = some (.builtin "divmod") := by first | rfl | kernel_rfl
theorem boot_enumerate : bootBuiltins "enumerate" = some (.type "enumerate") := by first | rfl | kernel_rfl
theorem boot_int : bootBuiltins "int" = some (.type "int") := by first | rfl | kernel_rfl
theorem boot_len : bootBuiltins "len" = some (.builtin "len") := by first | rfl | kernel_rfl
theorem boot_list : bootBuiltins "list" = some (.type "list") := by first | rfl | kernel_rfl
theorem boot_max : bootBuiltins "max" = some (.builtin "max") := by first | rfl | kernel_rfl
theorem boot_min : bootBuiltins "min" = some (.builtin "min") := by first | rfl | kernel_rfl
theorem boot_range : bootBuiltins "range" = some (.type "range") := by first | rfl | kernel_rfl
theorem boot_reversed : bootBuiltins "reversed" = some (.type "reversed") := by first | rfl | kernel_rfl
theorem boot_sorted : bootBuiltins "sorted" = some (.builtin "sorted") := by first | rfl | kernel_rfl
theorem boot_sum : bootBuiltins "sum" = some (.builtin "sum") := by first | rfl | kernel_rfl
theorem boot_tuple : bootBuiltins "tuple" = some (.type "tuple") := by first | rfl | kernel_rfl
abbrev s_law_a_by : Stmt := top 37
abbrev N_law_a_by : List Str := ["names", "pick", "found", "k"]
theorem sc_law_a_by : FnScope N_law_a_by ["names", "pick"] (defScope s_law_a_by) := ⟨rfl, rfl, rfl, by decide +kernel, rfl, by decide +kernel, by decide +kernel⟩
abbrev s_law_bound : Stmt := top 39
abbrev N_law_bound : List Str := ["pick", "far", "last", "k"]
theorem sc_law_bound : FnScope N_law_bound ["pick", "far", "last"] (defScope s_law_bound) := ⟨rfl, rfl, rfl, by decide +kernel, rfl, by decide +kernel, by decide +kernel⟩
abbrev s_law_a_frame_k08 : Stmt := top 40
abbrev N_law_a_frame_k08 : List Str := ["picks", "far", "kind", "but"]
theorem sc_law_a_frame_k08 : FnScope N_law_a_frame_k08 ["picks", "far"] (defScope s_law_a_frame_k08) := ⟨rfl, rfl, rfl, by decide +kernel, rfl, by decide +kernel, by decide +kernel⟩
abbrev s_law_a_order : Stmt := top 38
abbrev N_law_a_order : List Str := ["names", "pick", "found", "k", "name"]
theorem sc_law_a_order : FnScope N_law_a_order ["names", "pick"] (defScope s_law_a_order) := ⟨rfl, rfl, rfl, by decide +kernel, rfl, by decide +kernel, by decide +kernel⟩
abbrev s_law_measure : Stmt := top 41
abbrev N_law_measure : List Str := ["names", "pick", "name", "k", "words"]
theorem sc_law_measure : FnScope N_law_measure ["names", "pick"] (defScope s_law_measure) := ⟨rfl, rfl, rfl, by decide +kernel, rfl, by decide +kernel, by decide +kernel⟩
abbrev s_law_place : Stmt := top 42
abbrev N_law_place : List Str := ["names", "pick", "name", "k", "some"]
theorem sc_law_place : FnScope N_law_place ["names", "pick"] (defScope s_law_place) := ⟨rfl, rfl, rfl, by decide +kernel, rfl, by decide +kernel, by decide +kernel⟩
abbrev s_law_a_asking_k38 : Stmt := top 43
abbrev N_law_a_asking_k38 : List Str := ["names", "picks", "by", "order", "frame"]
theorem sc_law_a_asking_k38 : FnScope N_law_a_asking_k38 ["names", "picks"] (defScope s_law_a_asking_k38) := ⟨rfl, rfl, rfl, by decide +kernel, rfl, by decide +kernel, by decide +kernel⟩
abbrev s_law_a_draws : Stmt := top 34
abbrev N_law_a_draws : List Str := ["cell", "many", "base", "found", "rest", "stirred", "k"]
theorem sc_law_a_draws : FnScope N_law_a_draws ["cell", "many", "base"] (defScope s_law_a_draws) := ⟨rfl, rfl, rfl, by decide +kernel, rfl, by decide +kernel, by decide +kernel⟩
abbrev s_law_a_names : Stmt := top 35
abbrev N_law_a_names : List Str := ["draws", "many", "letters", "base", "at", "step", "names", "k", "name", "pick"]
theorem sc_law_a_names : FnScope N_law_a_names ["draws", "many"] (defScope s_law_a_names) := ⟨rfl, rfl, rfl, by decide +kernel, rfl, by decide +kernel, by decide +kernel⟩
abbrev s_law_cell_at : Stmt := top 33
abbrev N_law_cell_at : List Str := ["script", "k"]
theorem sc_law_cell_at : FnScope N_law_cell_at ["script", "k"] (defScope s_law_cell_at) := ⟨rfl, rfl, rfl, by decide +kernel, rfl, by decide +kernel, by decide +kernel⟩
abbrev s_law_a_table : Stmt := top 36
abbrev N_law_a_table : List Str := ["script", "at", "most", "heads", "wide", "names", "many", "far", "rows", "picks", "k", "row", "pick", "worth_here"]
theorem sc_law_a_table : FnScope N_law_a_table ["script", "at", "most"] (defScope s_law_a_table) := ⟨rfl, rfl, rfl, by decide +kernel, rfl, by decide +kernel, by decide +kernel⟩
abbrev s_law_turned : Stmt := top 44
abbrev N_law_turned : List Str := ["table", "turn", "names", "rows", "some", "row"]
theorem sc_law_turned : FnScope N_law_turned ["table", "turn"] (defScope s_law_turned) := ⟨rfl, rfl, rfl, by decide +kernel, rfl, by decide +kernel, by decide +kernel⟩
abbrev s_column : Stmt := top 5
abbrev N_column : List Str := ["table", "name"]
theorem sc_column : FnScope N_column ["table", "name"] (defScope s_column) := ⟨rfl, rfl, rfl, by decide +kernel, rfl, by decide +kernel, by decide +kernel⟩
abbrev s_worth : Stmt := top 7
abbrev N_worth : List Str := ["table", "row", "name"]
theorem sc_worth : FnScope N_worth ["table", "row", "name"] (defScope s_worth) := ⟨rfl, rfl, rfl, by decide +kernel, rfl, by decide +kernel, by decide +kernel⟩
abbrev s_are_alike : Stmt := top 11
abbrev N_are_alike : List Str := ["table", "order", "one", "other", "name", "way"]
theorem sc_are_alike : FnScope N_are_alike ["table", "order", "one", "other"] (defScope s_are_alike) := ⟨rfl, rfl, rfl, by decide +kernel, rfl, by decide +kernel, by decide +kernel⟩
abbrev s_groups_of : Stmt := top 14
abbrev N_groups_of : List Str := ["table", "line", "order", "told", "number", "k", "row"]
theorem sc_groups_of : FnScope N_groups_of ["table", "line", "order"] (defScope s_groups_of) := ⟨rfl, rfl, rfl, by decide +kernel, rfl, by decide +kernel, by decide +kernel⟩
abbrev s_is_place : Stmt := top 24
abbrev N_is_place : List Str := ["measure"]
theorem sc_is_place : FnScope N_is_place ["measure"] (defScope s_is_place) := ⟨rfl, rfl, rfl, by decide +kernel, rfl, by decide +kernel, by decide +kernel⟩
abbrev s_at_place : Stmt := top 27
abbrev N_at_place : List Str := ["found", "k"]
theorem sc_at_place : FnScope N_at_place ["found", "k"] (defScope s_at_place) := ⟨rfl, rfl, rfl, by decide +kernel, rfl, by decide +kernel, by decide +kernel⟩
abbrev s_measured : Stmt := top 28
abbrev N_measured : List Str := ["table", "window", "measure", "found", "numbers", "row", "one"]
theorem sc_measured : FnScope N_measured ["table", "window", "measure"] (defScope s_measured) := ⟨rfl, rfl, rfl, by decide +kernel, rfl, by decide +kernel, by decide +kernel⟩
abbrev s_names_in : Stmt := top 25
abbrev N_names_in : List Str := ["measure"]
theorem sc_names_in : FnScope N_names_in ["measure"] (defScope s_names_in) := ⟨rfl, rfl, rfl, by decide +kernel, rfl, by decide +kernel, by decide +kernel⟩
abbrev s_need_frame : Stmt := top 13
abbrev N_need_frame : List Str := ["order", "frame"]
theorem sc_need_frame : FnScope N_need_frame ["order", "frame"] (defScope s_need_frame) := ⟨rfl, rfl, rfl, by decide +kernel, rfl, by decide +kernel, by decide +kernel⟩
abbrev s_need_names : Stmt := top 6
abbrev N_need_names : List Str := ["table", "names", "name"]
theorem sc_need_names : FnScope N_need_names ["table", "names"] (defScope s_need_names) := ⟨rfl, rfl, rfl, by decide +kernel, rfl, by decide +kernel, by decide +kernel⟩
abbrev s_need_asking : Stmt := top 26
abbrev N_need_asking : List Str := ["table", "asking", "by", "order", "frame", "measure", "pair"]
theorem sc_need_asking : FnScope N_need_asking ["table", "asking"] (defScope s_need_asking) := ⟨rfl, rfl, rfl, by decide +kernel, rfl, by decide +kernel, by decide +kernel⟩
abbrev s_rank_of : Stmt := top 9
abbrev N_rank_of : List Str := ["found"]
theorem sc_rank_of : FnScope N_rank_of ["found"] (defScope s_rank_of) := ⟨rfl, rfl, rfl, by decide +kernel, rfl, by decide +kernel, by decide +kernel⟩
abbrev s_ordered : Stmt := top 10
abbrev N_ordered : List Str := ["table", "part", "order", "line", "name", "way", "at", "pair", "row"]
theorem sc_ordered : FnScope N_ordered ["table", "part", "order"] (defScope s_ordered) := ⟨rfl, rfl, rfl, by decide +kernel, rfl, by decide +kernel, by decide +kernel⟩
abbrev s_parts_of : Stmt := top 8
abbrev N_parts_of : List Str := ["table", "by", "parts", "row", "part", "name"]
theorem sc_parts_of : FnScope N_parts_of ["table", "by"] (defScope s_parts_of) := ⟨rfl, rfl, rfl, by decide +kernel, rfl, by decide +kernel, by decide +kernel⟩
abbrev s_piece_of : Stmt := top 29
abbrev N_piece_of : List Str := ["many", "k", "at", "size", "more"]
theorem sc_piece_of : FnScope N_piece_of ["many", "k", "at"] (defScope s_piece_of) := ⟨rfl, rfl, rfl, by decide +kernel, rfl, by decide +kernel, by decide +kernel⟩
abbrev s_placed : Stmt := top 30
abbrev N_placed : List Str := ["table", "line", "groups", "measure", "at", "step", "row"]
theorem sc_placed : FnScope N_placed ["table", "line", "groups", "measure", "at"] (defScope s_placed) := ⟨rfl, rfl, rfl, by decide +kernel, rfl, by decide +kernel, by decide +kernel⟩
abbrev s_first_from : Stmt := top 16
abbrev N_first_from : List Str := ["numbers", "least", "number"]
theorem sc_first_from : FnScope N_first_from ["numbers", "least"] (defScope s_first_from) := ⟨rfl, rfl, rfl, by decide +kernel, rfl, by decide +kernel, by decide +kernel⟩
abbrev s_off : Stmt := top 15
abbrev N_off : List Str := ["bound"]
theorem sc_off : FnScope N_off ["bound"] (defScope s_off) := ⟨rfl, rfl, rfl, by decide +kernel, rfl, by decide +kernel, by decide +kernel⟩
abbrev s_far_worth : Stmt := top 17
abbrev N_far_worth : List Str := ["found", "way", "bound", "step"]
theorem sc_far_worth : FnScope N_far_worth ["found", "way", "bound"] (defScope s_far_worth) := ⟨rfl, rfl, rfl, by decide +kernel, rfl, by decide +kernel, by decide +kernel⟩
abbrev s_worth_ends : Stmt := top 18
abbrev N_worth_ends : List Str := ["table", "line", "order", "frame", "at", "name", "way", "ranks", "here", "ends", "bound", "edge", "row", "r"]
theorem sc_worth_ends : FnScope N_worth_ends ["table", "line", "order", "frame", "at"] (defScope s_worth_ends) := ⟨rfl, rfl, rfl, by decide +kernel, rfl, by decide +kernel, by decide +kernel⟩
abbrev s_ends_of : Stmt := top 19
abbrev N_ends_of : List Str := ["table", "line", "order", "frame", "at", "kind", "begin", "end", "but", "first", "behind", "numbers"]
theorem sc_ends_of : FnScope N_ends_of ["table", "line", "order", "frame", "at"] (defScope s_ends_of) := ⟨rfl, rfl, rfl, by decide +kernel, rfl, by decide +kernel, by decide +kernel⟩
abbrev s_left_out : Stmt := top 20
abbrev N_left_out : List Str := ["table", "order", "but", "row", "other"]
theorem sc_left_out : FnScope N_left_out ["table", "order", "but", "row", "other"] (defScope s_left_out) := ⟨rfl, rfl, rfl, by decide +kernel, rfl, by decide +kernel, by decide +kernel⟩
abbrev s_window_at : Stmt := top 21
abbrev N_window_at : List Str := ["table", "line", "order", "frame", "at", "first", "behind", "row"]
theorem sc_window_at : FnScope N_window_at ["table", "line", "order", "frame", "at"] (defScope s_window_at) := ⟨rfl, rfl, rfl, by decide +kernel, rfl, by decide +kernel, by decide +kernel⟩
abbrev s_asked : Stmt := top 31
abbrev N_asked : List Str := ["table", "asking", "by", "order", "frame", "measure", "told", "part", "line", "groups", "at", "row"]
theorem sc_asked : FnScope N_asked ["table", "asking"] (defScope s_asked) := ⟨rfl, rfl, rfl, by decide +kernel, rfl, by decide +kernel, by decide +kernel⟩
abbrev s_law_k39 : Stmt := top 45
abbrev N_law_k39 : List Str := ["script", "table", "names", "rows", "picks", "asking", "some", "by", "due", "parts", "part", "used", "idle", "k", "found", "at", "row", "pick", "pair"]
theorem sc_law_k39 : FnScope N_law_k39 ["script"] (defScope s_law_k39) := ⟨rfl, rfl, rfl, by decide +kernel, rfl, by decide +kernel, by decide +kernel⟩
structure Gm (K : PySem.W.Frag) (mg : Str → Option Value) where
  n_all : mg "all" = none
  n_divmod : mg "divmod" = none
  n_enumerate : mg "enumerate" = none
  n_int : mg "int" = none
  n_len : mg "len" = none
  n_list : mg "list" = none
  n_max : mg "max" = none
  n_min : mg "min" = none
  n_range : mg "range" = none
  n_reversed : mg "reversed" = none
  n_sorted : mg "sorted" = none
  n_sum : mg "sum" = none
  n_tuple : mg "tuple" = none
  t_PLACES : GTup K mg "PLACES" [.str "number", .str "rank", .str "dense", .str "back", .str "on", .str "pieces"]
  c_NoFrame : Addr
  x_NoFrame : Xc K mg "NoFrame" c_NoFrame
  c_NoName : Addr
  x_NoName : Xc K mg "NoName" c_NoName
  a_law_a_by : Addr
  d_law_a_by : FuncData
  m_law_a_by : mg "_law_a_by" = some (.ref a_law_a_by)
  F_law_a_by : FnP K "_law_a_by" s_law_a_by a_law_a_by d_law_a_by
  b_law_a_by : Binds K d_law_a_by ["names", "pick"] []
  a_law_bound : Addr
  d_law_bound : FuncData
  m_law_bound : mg "_law_bound" = some (.ref a_law_bound)
  F_law_bound : FnP K "_law_bound" s_law_bound a_law_bound d_law_bound
  b_law_bound : Binds K d_law_bound ["pick", "far", "last"] []
  a_law_a_frame_k08 : Addr
  d_law_a_frame_k08 : FuncData
  m_law_a_frame_k08 : mg "_law_a_frame" = some (.ref a_law_a_frame_k08)
  F_law_a_frame_k08 : FnP K "_law_a_frame" s_law_a_frame_k08 a_law_a_frame_k08 d_law_a_frame_k08
  b_law_a_frame_k08 : Binds K d_law_a_frame_k08 ["picks", "far"] []
  a_law_a_order : Addr
  d_law_a_order : FuncData
  m_law_a_order : mg "_law_a_order" = some (.ref a_law_a_order)
  F_law_a_order : FnP K "_law_a_order" s_law_a_order a_law_a_order d_law_a_order
  b_law_a_order : Binds K d_law_a_order ["names", "pick"] []
  a_law_measure : Addr
  d_law_measure : FuncData
  m_law_measure : mg "_law_measure" = some (.ref a_law_measure)
  F_law_measure : FnP K "_law_measure" s_law_measure a_law_measure d_law_measure
  b_law_measure : Binds K d_law_measure ["names", "pick"] []
  a_law_place : Addr
  d_law_place : FuncData
  m_law_place : mg "_law_place" = some (.ref a_law_place)
  F_law_place : FnP K "_law_place" s_law_place a_law_place d_law_place
  b_law_place : Binds K d_law_place ["names", "pick"] []
  a_law_a_asking_k38 : Addr
  d_law_a_asking_k38 : FuncData
  m_law_a_asking_k38 : mg "_law_a_asking" = some (.ref a_law_a_asking_k38)
  F_law_a_asking_k38 : FnP K "_law_a_asking" s_law_a_asking_k38 a_law_a_asking_k38 d_law_a_asking_k38
  b_law_a_asking_k38 : Binds K d_law_a_asking_k38 ["names", "picks"] []
  a_law_a_draws : Addr
  d_law_a_draws : FuncData
  m_law_a_draws : mg "_law_a_draws" = some (.ref a_law_a_draws)
  F_law_a_draws : FnP K "_law_a_draws" s_law_a_draws a_law_a_draws d_law_a_draws
  b_law_a_draws : Binds K d_law_a_draws ["cell", "many", "base"] []
  a_law_a_names : Addr
  d_law_a_names : FuncData
  m_law_a_names : mg "_law_a_names" = some (.ref a_law_a_names)
  F_law_a_names : FnP K "_law_a_names" s_law_a_names a_law_a_names d_law_a_names
  b_law_a_names : Binds K d_law_a_names ["draws", "many"] []
  a_law_cell_at : Addr
  d_law_cell_at : FuncData
  m_law_cell_at : mg "_law_cell_at" = some (.ref a_law_cell_at)
  F_law_cell_at : FnP K "_law_cell_at" s_law_cell_at a_law_cell_at d_law_cell_at
  b_law_cell_at : Binds K d_law_cell_at ["script", "k"] []
  a_law_a_table : Addr
  d_law_a_table : FuncData
  m_law_a_table : mg "_law_a_table" = some (.ref a_law_a_table)
  F_law_a_table : FnP K "_law_a_table" s_law_a_table a_law_a_table d_law_a_table
  b_law_a_table : Binds K d_law_a_table ["script", "at", "most"] []
  a_law_turned : Addr
  d_law_turned : FuncData
  m_law_turned : mg "_law_turned" = some (.ref a_law_turned)
  F_law_turned : FnP K "_law_turned" s_law_turned a_law_turned d_law_turned
  b_law_turned : Binds K d_law_turned ["table", "turn"] []
  a_column : Addr
  d_column : FuncData
  m_column : mg "column" = some (.ref a_column)
  F_column : FnP K "column" s_column a_column d_column
  b_column : Binds K d_column ["table", "name"] []
  a_worth : Addr
  d_worth : FuncData
  m_worth : mg "worth" = some (.ref a_worth)
  F_worth : FnP K "worth" s_worth a_worth d_worth
  b_worth : Binds K d_worth ["table", "row", "name"] []
  a_are_alike : Addr
  d_are_alike : FuncData
  m_are_alike : mg "are_alike" = some (.ref a_are_alike)
  F_are_alike : FnP K "are_alike" s_are_alike a_are_alike d_are_alike
  b_are_alike : Binds K d_are_alike ["table", "order", "one", "other"] []
  a_groups_of : Addr
  d_groups_of : FuncData
  m_groups_of : mg "groups_of" = some (.ref a_groups_of)
  F_groups_of : FnP K "groups_of" s_groups_of a_groups_of d_groups_of
  b_groups_of : Binds K d_groups_of ["table", "line", "order"] []
  a_is_place : Addr
  d_is_place : FuncData
  m_is_place : mg "is_place" = some (.ref a_is_place)
  F_is_place : FnP K "is_place" s_is_place a_is_place d_is_place
  b_is_place : Binds K d_is_place ["measure"] []
  a_at_place : Addr
  d_at_place : FuncData
  m_at_place : mg "at_place" = some (.ref a_at_place)
  F_at_place : FnP K "at_place" s_at_place a_at_place d_at_place
  b_at_place : Binds K d_at_place ["found", "k"] []
  a_measured : Addr
  d_measured : FuncData
  m_measured : mg "measured" = some (.ref a_measured)
  F_measured : FnP K "measured" s_measured a_measured d_measured
  b_measured : Binds K d_measured ["table", "window", "measure"] []
  a_names_in : Addr
  d_names_in : FuncData
  m_names_in : mg "names_in" = some (.ref a_names_in)
  F_names_in : FnP K "names_in" s_names_in a_names_in d_names_in
  b_names_in : Binds K d_names_in ["measure"] []
  a_need_frame : Addr
  d_need_frame : FuncData
  m_need_frame : mg "need_frame" = some (.ref a_need_frame)
  F_need_frame : FnP K "need_frame" s_need_frame a_need_frame d_need_frame
  b_need_frame : Binds K d_need_frame ["order", "frame"] []
  a_need_names : Addr
  d_need_names : FuncData
  m_need_names : mg "need_names" = some (.ref a_need_names)
  F_need_names : FnP K "need_names" s_need_names a_need_names d_need_names
  b_need_names : Binds K d_need_names ["table", "names"] []
  a_need_asking : Addr
  d_need_asking : FuncData
  m_need_asking : mg "need_asking" = some (.ref a_need_asking)
  F_need_asking : FnP K "need_asking" s_need_asking a_need_asking d_need_asking
  b_need_asking : Binds K d_need_asking ["table", "asking"] []
  a_rank_of : Addr
  d_rank_of : FuncData
  m_rank_of : mg "rank_of" = some (.ref a_rank_of)
  F_rank_of : FnP K "rank_of" s_rank_of a_rank_of d_rank_of
  b_rank_of : Binds K d_rank_of ["found"] []
  a_ordered : Addr
  d_ordered : FuncData
  m_ordered : mg "ordered" = some (.ref a_ordered)
  F_ordered : FnP K "ordered" s_ordered a_ordered d_ordered
  b_ordered : Binds K d_ordered ["table", "part", "order"] []
  a_parts_of : Addr
  d_parts_of : FuncData
  m_parts_of : mg "parts_of" = some (.ref a_parts_of)
  F_parts_of : FnP K "parts_of" s_parts_of a_parts_of d_parts_of
  b_parts_of : Binds K d_parts_of ["table", "by"] []
  a_piece_of : Addr
  d_piece_of : FuncData
  m_piece_of : mg "piece_of" = some (.ref a_piece_of)
  F_piece_of : FnP K "piece_of" s_piece_of a_piece_of d_piece_of
  b_piece_of : Binds K d_piece_of ["many", "k", "at"] []
  a_placed : Addr
  d_placed : FuncData
  m_placed : mg "placed" = some (.ref a_placed)
  F_placed : FnP K "placed" s_placed a_placed d_placed
  b_placed : Binds K d_placed ["table", "line", "groups", "measure", "at"] []
  a_first_from : Addr
  d_first_from : FuncData
  m_first_from : mg "first_from" = some (.ref a_first_from)
  F_first_from : FnP K "first_from" s_first_from a_first_from d_first_from
  b_first_from : Binds K d_first_from ["numbers", "least"] []
  a_off : Addr
  d_off : FuncData
  m_off : mg "off" = some (.ref a_off)
  F_off : FnP K "off" s_off a_off d_off
  b_off : Binds K d_off ["bound"] []
  a_far_worth : Addr
  d_far_worth : FuncData
  m_far_worth : mg "far_worth" = some (.ref a_far_worth)
  F_far_worth : FnP K "far_worth" s_far_worth a_far_worth d_far_worth
  b_far_worth : Binds K d_far_worth ["found", "way", "bound"] []
  a_worth_ends : Addr
  d_worth_ends : FuncData
  m_worth_ends : mg "worth_ends" = some (.ref a_worth_ends)
  F_worth_ends : FnP K "worth_ends" s_worth_ends a_worth_ends d_worth_ends
  b_worth_ends : Binds K d_worth_ends ["table", "line", "order", "frame", "at"] []
  a_ends_of : Addr
  d_ends_of : FuncData
  m_ends_of : mg "ends_of" = some (.ref a_ends_of)
  F_ends_of : FnP K "ends_of" s_ends_of a_ends_of d_ends_of
  b_ends_of : Binds K d_ends_of ["table", "line", "order", "frame", "at"] []
  a_left_out : Addr
  d_left_out : FuncData
  m_left_out : mg "left_out" = some (.ref a_left_out)
  F_left_out : FnP K "left_out" s_left_out a_left_out d_left_out
  b_left_out : Binds K d_left_out ["table", "order", "but", "row", "other"] []
  a_window_at : Addr
  d_window_at : FuncData
  m_window_at : mg "window_at" = some (.ref a_window_at)
  F_window_at : FnP K "window_at" s_window_at a_window_at d_window_at
  b_window_at : Binds K d_window_at ["table", "line", "order", "frame", "at"] []
  a_asked : Addr
  d_asked : FuncData
  m_asked : mg "asked" = some (.ref a_asked)
  F_asked : FnP K "asked" s_asked a_asked d_asked
  b_asked : Binds K d_asked ["table", "asking"] []
  a_law_k39 : Addr
  d_law_k39 : FuncData
  m_law_k39 : mg "law" = some (.ref a_law_k39)
  F_law_k39 : FnP K "law" s_law_k39 a_law_k39 d_law_k39
  b_law_k39 : Binds K d_law_k39 ["script"] []
section
variable {P : Program} {w : World} {K : PySem.W.Frag} {mg : Str → Option Value} {base : Heap}
theorem ok_law_a_by (G : Gm K mg) (T : TabT K mg base) : FnOk P w K mg base (L2.CX P w) 1 G.a_law_a_by G.d_law_a_by ["names", "pick"] (spD K mg 2 g_law_a_by) :=
  okD G.F_law_a_by sc_law_a_by 2 rfl (fun X W cdv A outer s H E hX hr tk hp => by
  subst hX
  have hu := room65 hr
  have hu4 := room64 hr
  have hN := sc_law_a_by.nd
  exact (ss_cons (sj_set (p := true) hN (ec_lst a0))
 (ss_cons (sj_for (p := true) hp rfl (ei_range1 (ap_cons (EC.ep (ec_ix (EC.ep (ec_lst (ac_cons ki (ac_cons ki (ac_cons ki (ac_cons ki (ac_cons ki (ac_cons ki a0)))))))) (EC.ep (ec_bin opD_mod (vp 1) (ES.ep ki))))) b0) G.n_range) (TJ.tx (tj_name 3 hN))
 (ss_one (sj_drop (p := false) (ec_mut 2 F.slot_list_append F.type_list_append mu_append (ac_cons (EC.es (ec_ix (vp 0) (EC.ep (ec_bin opD_mod (EC.ep (ec_bin opD_add (EC.ep (ec_bin opD_div (vp 1) (ES.ep ki))) (EC.ep (ec_bin opD_mul (vp 3) (EC.ep (ec_bin opD_add (ES.ep ki) (EC.ep (ec_bin opD_div (vp 1) (ES.ep ki))))))))) (EC.ep (ec_callB cr_len G.n_len boot_len (ap_cons (vp 0) b0))))))) a0)))))
 (ss_one (sj_ret (p := true) (ec_callTy cr_tuple G.n_tuple boot_tuple (ap_cons (vp 2) b0)))))))
theorem ok_law_bound (G : Gm K mg) (T : TabT K mg base) : FnOk P w K mg base (L2.CX P w) 1 G.a_law_bound G.d_law_bound ["pick", "far", "last"] (spD K mg 3 g_law_bound) :=
  okD G.F_law_bound sc_law_bound 3 rfl (fun X W cdv A outer s H E hX hr tk hp => by
  subst hX
  have hu := room65 hr
  have hu4 := room64 hr
  have hN := sc_law_bound.nd
  exact (ss_cons (sj_set (p := true) hN (ec_ix (EC.ep (ec_lst (ac_cons (EC.es (ec_bin opD_mod (EC.ep (ec_bin opD_div (vp 0) (ES.ep ki))) (ES.ep ki))) (ac_cons (EC.es (ec_bin opD_mod (EC.ep (ec_bin opD_div (vp 0) (ES.ep ki))) (ES.ep ki))) (ac_cons (EC.es (ec_bin opD_div (EC.ep (ec_bin opD_mul (EC.ep (ec_bin opD_div (vp 0) (ES.ep ki))) (vp 1))) (ES.ep ki))) a0))))) (EC.ep (ec_bin opD_mod (EC.ep (ec_bin opD_div (vp 0) (ES.ep ki))) (ES.ep ki)))))
 (ss_one (sj_ret (p := true) (ec_ix (EC.ep (ec_lst (ac_cons (es_tup (ac_cons ks (ac_cons (vs 3) a0))) (ac_cons (es_tup (ac_cons ks (ac_cons (vs 3) a0))) (ac_cons (es_tup (ac_cons ks a0)) (ac_cons (EC.es (ec_ix (EC.ep (ec_lst (ac_cons (es_tup (ac_cons ks a0)) (ac_cons (es_tup (ac_cons ks a0)) a0)))) (vp 2))) (ac_cons (es_tup (ac_cons ks (ac_cons (vs 3) a0))) (ac_cons (es_tup (ac_cons ks (ac_cons (vs 3) a0))) a0)))))))) (EC.ep (ec_bin opD_mod (vp 0) (ES.ep ki))))))))
theorem ok_law_a_frame_k08 (G : Gm K mg) (T : TabT K mg base) : FnOk P w K mg base (L2.CX P w) 2 G.a_law_a_frame_k08 G.d_law_a_frame_k08 ["picks", "far"] (spD K mg 2 g_law_a_frame_k08) :=
  okD G.F_law_a_frame_k08 sc_law_a_frame_k08 2 rfl (fun X W cdv A outer s H E hX hr tk hp => by
  subst hX
  have hu := room65 hr
  have hu4 := room64 hr
  have hN := sc_law_a_frame_k08.nd
  exact (ss_cons (sj_set (p := true) hN (ec_ix (EC.ep (ec_lst (ac_cons ks (ac_cons ks (ac_cons ks a0))))) (EC.ep (ec_bin opD_mod (EC.ep (ec_ix (vp 0) (ES.ep ki))) (ES.ep ki)))))
 (ss_cons (sj_set (p := true) hN (ec_ix (EC.ep (ec_lst (ac_cons ks (ac_cons ks (ac_cons ks (ac_cons ks (ac_cons ks a0))))))) (EC.ep (ec_bin opD_mod (EC.ep (ec_ix (vp 0) (ES.ep ki))) (ES.ep ki)))))
 (ss_one (sj_ret (p := true) (ES.ec (es_tup (ac_cons (vs 2) (ac_cons (EC.es (ec_call (ok_law_bound G T) (hr.mono (by decide)) G.m_law_bound G.F_law_bound.kp G.b_law_bound tk (arl_cons (arl_cons (arl_cons arl_nil))) (ac_cons (EC.es (ec_ix (vp 0) (ES.ep ki))) (ac_cons (vs 1) (ac_cons ki a0))))) (ac_cons (EC.es (ec_call (ok_law_bound G T) (hr.mono (by decide)) G.m_law_bound G.F_law_bound.kp G.b_law_bound tk (arl_cons (arl_cons (arl_cons arl_nil))) (ac_cons (EC.es (ec_ix (vp 0) (ES.ep ki))) (ac_cons (vs 1) (ac_cons ki a0))))) (ac_cons (vs 3) a0)))))))))))
theorem ok_law_a_order (G : Gm K mg) (T : TabT K mg base) : FnOk P w K mg base (L2.CX P w) 1 G.a_law_a_order G.d_law_a_order ["names", "pick"] (spD K mg 2 g_law_a_order) :=
  okD G.F_law_a_order sc_law_a_order 2 rfl (fun X W cdv A outer s H E hX hr tk hp => by
  subst hX
  have hu := room65 hr
  have hu4 := room64 hr
  have hN := sc_law_a_order.nd
  exact (ss_cons (sj_set (p := true) hN (ec_lst a0))
 (ss_cons (sj_for (p := true) hp rfl (ei_range1 (ap_cons (EC.ep (ec_ix (EC.ep (ec_lst (ac_cons ki (ac_cons ki (ac_cons ki (ac_cons ki (ac_cons ki (ac_cons ki a0)))))))) (EC.ep (ec_bin opD_mod (vp 1) (ES.ep ki))))) b0) G.n_range) (TJ.tx (tj_name 3 hN))
 (ss_cons (sj_set (p := true) hN (ec_ix (vp 0) (EC.ep (ec_bin opD_mod (EC.ep (ec_bin opD_add (EC.ep (ec_bin opD_div (vp 1) (ES.ep ki))) (EC.ep (ec_bin opD_mul (vp 3) (EC.ep (ec_bin opD_add (ES.ep ki) (EC.ep (ec_bin opD_div (vp 1) (ES.ep ki))))))))) (EC.ep (ec_callB cr_len G.n_len boot_len (ap_cons (vp 0) b0)))))))
 (ss_one (sj_drop (p := false) (ec_mut 2 F.slot_list_append F.type_list_append mu_append (ac_cons (es_tup (ac_cons (vs 4) (ac_cons (EC.es (ec_ix (EC.ep (ec_lst (ac_cons ks (ac_cons ks a0)))) (EC.ep (ec_bin opD_mod (EC.ep (ec_bin opD_shr (EC.ep (ec_bin opD_div (vp 1) (ES.ep ki))) (vp 3))) (ES.ep ki))))) a0))) a0))))))
 (ss_one (sj_ret (p := true) (ec_callTy cr_tuple G.n_tuple boot_tuple (ap_cons (vp 2) b0)))))))
theorem ok_law_measure (G : Gm K mg) (T : TabT K mg base) : FnOk P w K mg base (L2.CX P w) 1 G.a_law_measure G.d_law_measure ["names", "pick"] (spD K mg 2 g_law_measure) :=
  okD G.F_law_measure sc_law_measure 2 rfl (fun X W cdv A outer s H E hX hr tk hp => by
  subst hX
  have hu := room65 hr
  have hu4 := room64 hr
  have hN := sc_law_measure.nd
  exact (ss_cons (sj_set (p := true) hN (ec_ix (vp 0) (EC.ep (ec_bin opD_mod (EC.ep (ec_bin opD_div (vp 1) (ES.ep ki))) (EC.ep (ec_callB cr_len G.n_len boot_len (ap_cons (vp 0) b0)))))))
 (ss_cons (sj_set (p := true) hN (ec_bin opD_add (ES.ep ki) (EC.ep (ec_ix (EC.ep (ec_lst (ac_cons (EC.es (ec_bin opD_mod (EC.ep (ec_bin opD_div (vp 1) (ES.ep ki))) (ES.ep ki))) (ac_cons (EC.es (ec_bin opD_mod (EC.ep (ec_bin opD_div (vp 1) (ES.ep ki))) (ES.ep ki))) (ac_cons (EC.es (ec_bin opD_pow (ES.ep ki) (ES.ep ki))) a0))))) (EC.ep (ec_bin opD_mod (EC.ep (ec_bin opD_div (vp 1) (ES.ep ki))) (ES.ep ki)))))))
 (ss_cons (sj_set (p := true) hN (ec_lst (ac_cons (es_tup (ac_cons ks a0)) (ac_cons (es_tup (ac_cons ks (ac_cons (vs 2) a0))) (ac_cons (es_tup (ac_cons ks (ac_cons (vs 2) a0))) (ac_cons (es_tup (ac_cons ks (ac_cons (vs 2) a0))) (ac_cons (es_tup (ac_cons ks (ac_cons (vs 2) a0))) (ac_cons (es_tup (ac_cons ks (ac_cons (vs 2) a0))) a0))))))))
 (ss_one (sj_ret (p := true) (ec_ix (EC.ep (ec_bin opD_add (vp 4) (EC.ep (ec_lst (ac_cons (es_tup (ac_cons ks (ac_cons (vs 2) a0))) (ac_cons (es_tup (ac_cons ks (ac_cons (vs 2) (ac_cons (vs 3) a0)))) (ac_cons (es_tup (ac_cons ks (ac_cons (vs 2) a0))) a0))))))) (EC.ep (ec_bin opD_mod (vp 1) (ES.ep ki))))))))))
theorem ok_law_place (G : Gm K mg) (T : TabT K mg base) : FnOk P w K mg base (L2.CX P w) 1 G.a_law_place G.d_law_place ["names", "pick"] (spD K mg 2 g_law_place) :=
  okD G.F_law_place sc_law_place 2 rfl (fun X W cdv A outer s H E hX hr tk hp => by
  subst hX
  have hu := room65 hr
  have hu4 := room64 hr
  have hN := sc_law_place.nd
  exact (ss_cons (sj_set (p := true) hN (ec_ix (vp 0) (EC.ep (ec_bin opD_mod (EC.ep (ec_bin opD_div (vp 1) (ES.ep ki))) (EC.ep (ec_callB cr_len G.n_len boot_len (ap_cons (vp 0) b0)))))))
 (ss_cons (sj_set (p := true) hN (ec_ix (EC.ep (ec_lst (ac_cons (EC.es (ec_bin opD_mod (EC.ep (ec_bin opD_div (vp 1) (ES.ep ki))) (ES.ep ki))) (ac_cons (EC.es (ec_bin opD_mod (EC.ep (ec_bin opD_div (vp 1) (ES.ep ki))) (ES.ep ki))) (ac_cons (EC.es (ec_bin opD_pow (ES.ep ki) (ES.ep ki))) a0))))) (EC.ep (ec_bin opD_mod (EC.ep (ec_bin opD_div (vp 1) (ES.ep ki))) (ES.ep ki)))))
 (ss_cons (sj_set (p := true) hN (ec_lst (ac_cons (es_tup (ac_cons ks a0)) (ac_cons (es_tup (ac_cons ks a0)) (ac_cons (es_tup (ac_cons ks a0)) (ac_cons (es_tup (ac_cons ks (ac_cons (vs 2) (ac_cons (vs 3) a0)))) (ac_cons (es_tup (ac_cons ks (ac_cons (vs 2) (ac_cons (vs 3) a0)))) a0)))))))
 (ss_one (sj_ret (p := true) (ec_ix (EC.ep (ec_bin opD_add (vp 4) (EC.ep (ec_lst (ac_cons (es_tup (ac_cons ks (ac_cons (EC.es (ec_bin opD_add (EC.ep (ec_callB (cr_min2 rfl) G.n_min boot_min (ap_cons (vp 3) (ap_cons (ES.ep ki) b0)))) (ES.ep ki))) a0))) a0))))) (EC.ep (ec_bin opD_mod (vp 1) (ES.ep ki))))))))))
theorem ok_law_a_asking_k38 (G : Gm K mg) (T : TabT K mg base) : FnOk P w K mg base (L2.CX P w) 3 G.a_law_a_asking_k38 G.d_law_a_asking_k38 ["names", "picks"] (spD K mg 2 g_law_a_asking_k38) :=
  okD G.F_law_a_asking_k38 sc_law_a_asking_k38 2 rfl (fun X W cdv A outer s H E hX hr tk hp => by
  subst hX
  have hu := room65 hr
  have hu4 := room64 hr
  have hN := sc_law_a_asking_k38.nd
  exact (ss_cons (sj_set (p := true) hN (ec_call (ok_law_a_by G T) (hr.mono (by decide)) G.m_law_a_by G.F_law_a_by.kp G.b_law_a_by tk (arl_cons (arl_cons arl_nil)) (ac_cons (vs 0) (ac_cons (EC.es (ec_ix (vp 1) (ES.ep ki))) a0))))
 (ss_cons (sj_set (p := true) hN (ec_call (ok_law_a_order G T) (hr.mono (by decide)) G.m_law_a_order G.F_law_a_order.kp G.b_law_a_order tk (arl_cons (arl_cons arl_nil)) (ac_cons (vs 0) (ac_cons (EC.es (ec_ix (vp 1) (ES.ep ki))) a0))))
 (ss_cons (sj_if (p := true) (et_cmp (opD_eq hu4) (EC.ep (ec_bin opD_mod (EC.ep (ec_ix (vp 1) (ES.ep ki))) (ES.ep ki))) (ES.ep ki))
 (ss_one (sj_ret (p := true) (ES.ec (es_tup (ac_cons (vs 2) (ac_cons (vs 3) (ac_cons kn (ac_cons (EC.es (ec_call (ok_law_place G T) (hr.mono (by decide)) G.m_law_place G.F_law_place.kp G.b_law_place tk (arl_cons (arl_cons arl_nil)) (ac_cons (vs 0) (ac_cons (EC.es (ec_ix (vp 1) (ES.ep ki))) a0)))) a0))))))))
 ss_nil)
 (ss_cons (sj_set (p := true) hN (ec_call (ok_law_a_frame_k08 G T) (hr.mono (by decide)) G.m_law_a_frame_k08 G.F_law_a_frame_k08.kp G.b_law_a_frame_k08 tk (arl_cons (arl_cons arl_nil)) (ac_cons (vs 1) (ac_cons (EC.es (ec_ix (EC.ep (ec_lst (ac_cons ki (ac_cons (EC.es (ec_bin opD_pow (ES.ep ki) (ES.ep ki))) a0)))) (EC.ep (ec_bin opD_mod (EC.ep (ec_ix (vp 1) (ES.ep ki))) (ES.ep ki))))) a0))))
 (ss_cons (sj_if (p := true) (et_cmp (opD_eq hu4) (EC.ep (ec_ix (vp 4) (ES.ep ki))) (ES.ep ks))
 (ss_one (sj_set (p := true) hN (ES.ec (es_tup (ac_cons (es_tup (ac_cons (EC.es (ec_ix (vp 0) (EC.ep (ec_bin opD_mod (EC.ep (ec_bin opD_div (EC.ep (ec_ix (vp 1) (ES.ep ki))) (ES.ep ki))) (EC.ep (ec_callB cr_len G.n_len boot_len (ap_cons (vp 0) b0))))))) (ac_cons (EC.es (ec_ix (EC.ep (ec_lst (ac_cons ks (ac_cons ks a0)))) (EC.ep (ec_bin opD_mod (EC.ep (ec_ix (vp 1) (ES.ep ki))) (ES.ep ki))))) a0))) a0)))))
 ss_nil)
 (ss_one (sj_ret (p := true) (ES.ec (es_tup (ac_cons (vs 2) (ac_cons (vs 3) (ac_cons (vs 4) (ac_cons (EC.es (ec_call (ok_law_measure G T) (hr.mono (by decide)) G.m_law_measure G.F_law_measure.kp G.b_law_measure tk (arl_cons (arl_cons arl_nil)) (ac_cons (vs 0) (ac_cons (EC.es (ec_ix (vp 1) (ES.ep ki))) a0)))) a0))))))))))))))
theorem ok_law_a_draws (G : Gm K mg) (T : TabT K mg base) : FnOk P w K mg base (L2.CX P w) 1 G.a_law_a_draws G.d_law_a_draws ["cell", "many", "base"] (spD K mg 3 g_law_a_draws) :=
  okD G.F_law_a_draws sc_law_a_draws 3 rfl (fun X W cdv A outer s H E hX hr tk hp => by
  subst hX
  have hu := room65 hr
  have hu4 := room64 hr
  have hN := sc_law_a_draws.nd
  exact (ss_cons (sj_set (p := true) hN (ec_lst a0))
 (ss_cons (sj_set (p := true) hN (ec_bin opD_mul (vp 0) (EC.ep (ec_callTy cr_int G.n_int boot_int (ap_cons (EC.ep (ec_cmp opD_ge (vp 0) (EC.ep (ec_bin opD_pow (ES.ep ki) (ES.ep ki))))) b0)))))
 (ss_cons (sj_set (p := true) hN (ec_bin opD_mod (vp 0) (ES.ep ki)))
 (ss_cons (sj_for (p := true) hp rfl (ei_range1 (ap_cons (EC.ep (ec_bin opD_add (vp 1) (ES.ep ki))) b0) G.n_range) (TJ.tx (tj_name 6 hN))
 (ss_cons (sj_set (p := true) hN (ec_bin opD_mod (EC.ep (ec_bin opD_add (EC.ep (ec_bin opD_add (EC.ep (ec_bin opD_add (EC.ep (ec_bin opD_mul (vp 5) (vp 5))) (EC.ep (ec_bin opD_mul (ES.ep ki) (vp 5))))) (vp 6))) (ES.ep ki))) (ES.ep ki)))
 (ss_one (sj_if (p := true) (EW.et (ew_and (et_cmp opD_gt (vp 6) (ES.ep ki)) (ew_and1 (et_cmp opD_gt (vp 4) (ES.ep ki)))))
 (ss_cons (sj_drop (p := false) (ec_mut 3 F.slot_list_append F.type_list_append mu_append (ac_cons (EC.es (ec_bin opD_mod (vp 4) (vp 2))) a0)))
 (ss_one (sj_set (p := true) hN (ec_bin opD_div (vp 4) (vp 2)))))
 (ss_one (sj_if (p := true) (et_cmp opD_gt (vp 6) (ES.ep ki))
 (ss_one (sj_drop (p := false) (ec_mut 3 F.slot_list_append F.type_list_append mu_append (ac_cons (EC.es (ec_bin opD_mod (EC.ep (ec_bin opD_div (vp 5) (ES.ep ki))) (vp 2))) a0))))
 ss_nil))))))
 (ss_one (sj_ret (p := true) (vm 3))))))))
theorem ok_law_a_names (G : Gm K mg) (T : TabT K mg base) : FnOk P w K mg base (L2.CX P w) 1 G.a_law_a_names G.d_law_a_names ["draws", "many"] (spD K mg 2 g_law_a_names) :=
  okD G.F_law_a_names sc_law_a_names 2 rfl (fun X W cdv A outer s H E hX hr tk hp => by
  subst hX
  have hu := room65 hr
  have hu4 := room64 hr
  have hN := sc_law_a_names.nd
  exact (ss_cons (sj_set (p := true) hN (ES.ec ks))
 (ss_cons (sj_setComp (p := true) [("pick", 9)] rfl hN (blkOk_by (by kernel_rfl)) rfl (ei_pk (EC.ep (ec_slice (vp 0) en (eo_some (EC.ep (ec_bin opD_add (ES.ep ki) (EC.ep (ec_bin opD_mod (EC.ep (ec_ix (vp 0) (ES.ep ki))) (ES.ep ki))))))))) (fun _ _ _ _ _ => (TJ.tx (tj_name 9 hN))) (fun _ _ _ _ _ => en0) (fun _ _ _ _ _ => (EC.es (ec_ix (vp 2) (EC.ep (ec_bin opD_mod (vp 9) (ES.ep ki)))))))
 (ss_cons (sj_set (p := true) hN (ec_bin opD_mod (EC.ep (ec_ix (vp 0) (ES.ep ki))) (EC.ep (ec_callB cr_len G.n_len boot_len (ap_cons (vp 3) b0)))))
 (ss_cons (sj_set (p := true) hN (ec_ix (EC.ep (ec_lst (ac_cons ki (ac_cons ki (ac_cons ki (ac_cons ki (ac_cons ki (ac_cons ki a0)))))))) (EC.ep (ec_bin opD_mod (EC.ep (ec_ix (vp 0) (ES.ep ki))) (ES.ep ki)))))
 (ss_cons (sj_set (p := true) hN (ec_lst a0))
 (ss_cons (sj_for (p := true) hp rfl (ei_range1 (ap_cons (vp 1) b0) G.n_range) (TJ.tx (tj_name 7 hN))
 (ss_cons (sj_set (p := true) hN (ec_callTy cr_list G.n_list boot_list (ap_cons (vp 3) b0)))
 (ss_cons (sj_setIx (p := true) (i := 8) (EC.es (ec_ix (vp 2) (EC.ep (ec_bin opD_mod (EC.ep (ec_bin opD_add (EC.ep (ec_ix (vp 0) (ES.ep ki))) (EC.ep (ec_bin opD_mul (vp 5) (vp 7))))) (ES.ep ki))))) (vp 4))
 (ss_cons (sj_if (p := true) (et_cmp (opD_eq hu4) (EC.ep (ec_bin opD_mod (EC.ep (ec_ix (vp 0) (ES.ep ki))) (ES.ep ki))) (ES.ep ki))
 (ss_one (sj_set (p := true) hN (ec_bin opD_add (EC.ep (ec_slice (vp 8) (eo_some (vp 4)) (eo_some (EC.ep (ec_bin opD_add (vp 4) (ES.ep ki)))))) (EC.ep (ec_slice (vp 8) en (eo_some (EC.ep (ec_bin opD_mod (EC.ep (ec_ix (vp 0) (EC.ep (ec_bin opD_add (ES.ep ki) (vp 7))))) (ES.ep ki)))))))))
 ss_nil)
 (ss_one (sj_drop (p := false) (ec_mut 6 F.slot_list_insert F.type_list_insert mu_insert (ac_cons (EC.es (ec_bin opD_mod (EC.ep (ec_ix (vp 0) (EC.ep (ec_bin opD_add (ES.ep ki) (vp 7))))) (EC.ep (ec_bin opD_add (EC.ep (ec_callB cr_len G.n_len boot_len (ap_cons (vp 6) b0))) (ES.ep ki))))) (ac_cons (EC.es (ec_join (ES.ep ks) (EC.ep (ec_slice (vp 8) en (eo_some (ES.ep ki)))))) a0)))))))))
 (ss_one (sj_ret (p := true) (vm 6))))))))))
theorem ok_law_cell_at (G : Gm K mg) (T : TabT K mg base) : FnOk P w K mg base (L2.CX P w) 1 G.a_law_cell_at G.d_law_cell_at ["script", "k"] (spD K mg 2 g_law_cell_at) :=
  okD G.F_law_cell_at sc_law_cell_at 2 rfl (fun X W cdv A outer s H E hX hr tk hp => by
  subst hX
  have hu := room65 hr
  have hu4 := room64 hr
  have hN := sc_law_cell_at.nd
  exact (ss_cons (sj_if (p := true) (et_cmp opD_lt (vp 1) (EC.ep (ec_callB cr_len G.n_len boot_len (ap_cons (vp 0) b0))))
 (ss_one (sj_ret (p := true) (ec_ix (vp 0) (vp 1))))
 ss_nil)
 (ss_one (sj_ret (p := true) (ES.ec ki)))))
theorem ok_law_a_table (G : Gm K mg) (T : TabT K mg base) : FnOk P w K mg base (L2.CX P w) 2 G.a_law_a_table G.d_law_a_table ["script", "at", "most"] (spD K mg 3 g_law_a_table) :=
  okD G.F_law_a_table sc_law_a_table 3 rfl (fun X W cdv A outer s H E hX hr tk hp => by
  subst hX
  have hu := room65 hr
  have hu4 := room64 hr
  have hN := sc_law_a_table.nd
  exact (ss_cons (sj_set (p := true) hN (ec_call (ok_law_a_draws G T) (hr.mono (by decide)) G.m_law_a_draws G.F_law_a_draws.kp G.b_law_a_draws tk (arl_cons (arl_cons (arl_cons arl_nil))) (ac_cons (EC.es (ec_call (ok_law_cell_at G T) (hr.mono (by decide)) G.m_law_cell_at G.F_law_cell_at.kp G.b_law_cell_at tk (arl_cons (arl_cons arl_nil)) (ac_cons (vs 0) (ac_cons (vs 1) a0)))) (ac_cons ki (ac_cons ki a0)))))
 (ss_cons (sj_set (p := true) hN (ec_ix (EC.ep (ec_lst (ac_cons (EC.es (ec_bin opD_add (ES.ep ki) (EC.ep (ec_bin opD_mod (EC.ep (ec_ix (vp 3) (ES.ep ki))) (ES.ep ki))))) (ac_cons (EC.es (ec_bin opD_add (ES.ep ki) (EC.ep (ec_bin opD_mod (EC.ep (ec_ix (vp 3) (ES.ep ki))) (ES.ep ki))))) a0)))) (EC.ep (ec_bin opD_mod (EC.ep (ec_ix (vp 3) (ES.ep ki))) (ES.ep ki)))))
 (ss_cons (sj_set (p := true) hN (ec_callTy cr_tuple G.n_tuple boot_tuple (ap_cons (EC.ep (ec_call (ok_law_a_names G T) (hr.mono (by decide)) G.m_law_a_names G.F_law_a_names.kp G.b_law_a_names tk (arl_cons (arl_cons arl_nil)) (ac_cons (vs 3) (ac_cons (vs 4) a0)))) b0)))
 (ss_cons (sj_set (p := true) hN (ec_ix (EC.ep (ec_lst (ac_cons (EC.es (ec_bin opD_mod (EC.ep (ec_ix (vp 3) (ES.ep ki))) (ES.ep ki))) (ac_cons (EC.es (ec_bin opD_mod (EC.ep (ec_ix (vp 3) (ES.ep ki))) (ES.ep ki))) (ac_cons (EC.es (ec_bin opD_mod (EC.ep (ec_ix (vp 3) (ES.ep ki))) (EC.ep (ec_bin opD_add (vp 2) (ES.ep ki))))) a0))))) (EC.ep (ec_bin opD_mod (EC.ep (ec_bin opD_div (EC.ep (ec_ix (vp 3) (ES.ep ki))) (ES.ep ki))) (ES.ep ki)))))
 (ss_cons (sj_if (p := true) (EW.et (ew_and (et_cmp opD_gt (vp 2) (ES.ep ki)) (ew_and1 (et_cmp (opD_eq hu4) (EC.ep (ec_bin opD_mod (EC.ep (ec_bin opD_div (EC.ep (ec_ix (vp 3) (ES.ep ki))) (ES.ep ki))) (ES.ep ki))) (ES.ep ki)))))
 (ss_one (sj_set (p := true) hN (ec_bin opD_add (ES.ep ki) (EC.ep (ec_bin opD_mod (EC.ep (ec_ix (vp 3) (ES.ep ki))) (ES.ep ki))))))
 ss_nil)
 (ss_cons (sj_set (p := true) hN (ec_ix (EC.ep (ec_lst (ac_cons ki (ac_cons ki (ac_cons (EC.es (ec_bin opD_pow (ES.ep ki) (ES.ep ki))) (ac_cons ki a0)))))) (EC.ep (ec_bin opD_mod (EC.ep (ec_ix (vp 3) (ES.ep ki))) (ES.ep ki)))))
 (ss_cons (sj_set (p := true) hN (ec_lst a0))
 (ss_cons (sj_set (p := true) hN (ec_call (ok_law_a_draws G T) (hr.mono (by decide)) G.m_law_a_draws G.F_law_a_draws.kp G.b_law_a_draws tk (arl_cons (arl_cons (arl_cons arl_nil))) (ac_cons (EC.es (ec_call (ok_law_cell_at G T) (hr.mono (by decide)) G.m_law_cell_at G.F_law_cell_at.kp G.b_law_cell_at tk (arl_cons (arl_cons arl_nil)) (ac_cons (vs 0) (ac_cons (EC.es (ec_bin opD_add (vp 1) (ES.ep ki))) a0)))) (ac_cons (EC.es (ec_bin opD_mul (vp 6) (vp 4))) (ac_cons (EC.es (ec_bin opD_pow (ES.ep ki) (ES.ep ki))) a0)))))
 (ss_cons (sj_for (p := true) hp rfl (ei_range1 (ap_cons (vp 6) b0) G.n_range) (TJ.tx (tj_name 10 hN))
 (ss_cons (sj_set (p := true) hN (ec_lst a0))
 (ss_cons (sj_for (p := true) hp rfl (ei_any (EC.es (ec_slice (vp 9) (eo_some (EC.ep (ec_bin opD_mul (vp 10) (vp 4)))) (eo_some (EC.ep (ec_bin opD_add (EC.ep (ec_bin opD_mul (vp 10) (vp 4))) (vp 4))))))) (TJ.tx (tj_name 12 hN))
 (ss_cons (sj_set (p := true) hN (ec_bin opD_sub (EC.ep (ec_bin opD_mod (EC.ep (ec_bin opD_div (vp 12) (ES.ep ki))) (EC.ep (ec_bin opD_add (EC.ep (ec_bin opD_mul (ES.ep ki) (vp 7))) (ES.ep ki))))) (vp 7)))
 (ss_cons (sj_if (p := true) (et_cmp (opD_eq hu4) (EC.ep (ec_bin opD_mod (vp 12) (ES.ep ki))) (ES.ep ki))
 (ss_one (sj_set (p := true) hN (ec_bin opD_sub (EC.ep (ec_bin opD_mod (EC.ep (ec_bin opD_mul (vp 12) (EC.ep (ec_bin opD_add (EC.ep (ec_bin opD_pow (ES.ep ki) (ES.ep ki))) (ES.ep ki))))) (EC.ep (ec_bin opD_add (EC.ep (ec_bin opD_mul (ES.ep ki) (vp 7))) (ES.ep ki))))) (vp 7))))
 ss_nil)
 (ss_one (sj_drop (p := false) (ec_mut 11 F.slot_list_append F.type_list_append mu_append (ac_cons (EC.es (ec_ix (EC.ep (ec_lst (ac_cons kn (ac_cons (vs 13) a0)))) (EC.ep (ec_callTy cr_int G.n_int boot_int (ap_cons (EC.ep (ec_cmp opD_gt (EC.ep (ec_bin opD_mod (vp 12) (ES.ep ki))) (ES.ep ki))) b0))))) a0)))))))
 (ss_one (sj_drop (p := false) (ec_mut 8 F.slot_list_append F.type_list_append mu_append (ac_cons (EC.es (ec_callTy cr_tuple G.n_tuple boot_tuple (ap_cons (vp 11) b0))) a0)))))))
 (ss_one (sj_ret (p := true) (ES.ec (es_tup (ac_cons (vs 5) (ac_cons (vs 8) a0))))))))))))))))
theorem ok_law_turned (G : Gm K mg) (T : TabT K mg base) : FnOk P w K mg base (L2.CX P w) 1 G.a_law_turned G.d_law_turned ["table", "turn"] (spD K mg 2 g_law_turned) :=
  okD G.F_law_turned sc_law_turned 2 rfl (fun X W cdv A outer s H E hX hr tk hp => by
  subst hX
  have hu := room65 hr
  have hu4 := room64 hr
  have hN := sc_law_turned.nd
  exact (ss_cons (sj_un (p := true) (vs 0) (tl_tup rfl (tls_cons (tj_name 2 hN) (tls_cons (tj_name 3 hN) tls_nil))))
 (ss_cons (sj_setComp (p := true) [("row", 5)] rfl hN (blkOk_by (by kernel_rfl)) rfl (ei_pk (vp 3)) (fun _ _ _ _ _ => (TJ.tx (tj_name 5 hN))) (fun _ _ _ _ _ => en0) (fun _ _ _ _ _ => (EC.es (ec_bin opD_add (EC.ep (ec_slice (vp 5) (eo_some (vp 1)) en)) (EC.ep (ec_slice (vp 5) en (eo_some (vp 1))))))))
 (ss_one (sj_ret (p := true) (ES.ec (es_tup (ac_cons (EC.es (ec_bin opD_add (EC.ep (ec_slice (vp 2) (eo_some (vp 1)) en)) (EC.ep (ec_slice (vp 2) en (eo_some (vp 1)))))) (ac_cons (vs 4) a0)))))))))
theorem ok_column (G : Gm K mg) (T : TabT K mg base) : FnOk P w K mg base (L2.CX P w) 1 G.a_column G.d_column ["table", "name"] (spD K mg 2 g_column) :=
  okD G.F_column sc_column 2 rfl (fun X W cdv A outer s H E hX hr tk hp => by
  subst hX
  have hu := room65 hr
  have hu4 := room64 hr
  have hN := sc_column.nd
  exact (ss_cons (sj_if (p := true) (et_cmp (opD_notIn hu) (vp 1) (EC.ep (ec_ix (vp 0) (ES.ep ki))))
 (ss_one (sj_raise G.x_NoName tk rfl))
 ss_nil)
 (ss_one (sj_ret (p := true) (ec_tindex (EC.ep (ec_ix (vp 0) (ES.ep ki))) (vp 1))))))
theorem ok_worth (G : Gm K mg) (T : TabT K mg base) : FnOk P w K mg base (L2.CX P w) 2 G.a_worth G.d_worth ["table", "row", "name"] (spD K mg 3 g_worth) :=
  okD G.F_worth sc_worth 3 rfl (fun X W cdv A outer s H E hX hr tk hp => by
  subst hX
  have hu := room65 hr
  have hu4 := room64 hr
  have hN := sc_worth.nd
  exact (ss_one (sj_ret (p := true) (ec_ix (EC.ep (ec_ix (EC.ep (ec_ix (vp 0) (ES.ep ki))) (vp 1))) (EC.ep (ec_call (ok_column G T) (hr.mono (by decide)) G.m_column G.F_column.kp G.b_column tk (arl_cons (arl_cons arl_nil)) (ac_cons (vs 0) (ac_cons (vs 2) a0))))))))
theorem ok_are_alike (G : Gm K mg) (T : TabT K mg base) : FnOk P w K mg base (L2.CX P w) 3 G.a_are_alike G.d_are_alike ["table", "order", "one", "other"] (spD K mg 4 g_are_alike) :=
  okD G.F_are_alike sc_are_alike 4 rfl (fun X W cdv A outer s H E hX hr tk hp => by
  subst hX
  have hu := room65 hr
  have hu4 := room64 hr
  have hN := sc_are_alike.nd
  exact (ss_one (sj_ret (p := true) (ec_callB (cr_allD rfl) G.n_all boot_all (ap_cons (EC.ep (ec_comp [("name", 4), ("way", 5)] rfl hN (blkOk_by (by kernel_rfl)) (ei_pk (vp 1)) (fun _ _ _ _ _ => (TJ.tx (TL.tj (tl_tup rfl (tls_cons (tj_name 4 hN) (tls_cons (tj_name 5 hN) tls_nil)))))) (fun _ _ _ _ _ => en0) (fun _ _ _ _ _ => (EC.es (ec_cmp (opD_eq hu4) (EC.ep (ec_call (ok_worth G T) (hr.mono (by decide)) G.m_worth G.F_worth.kp G.b_worth takes0 (arl_cons (arl_cons (arl_cons arl_nil))) (ac_cons (vs 0) (ac_cons (vs 2) (ac_cons (vs 4) a0))))) (EC.ep (ec_call (ok_worth G T) (hr.mono (by decide)) G.m_worth G.F_worth.kp G.b_worth takes0 (arl_cons (arl_cons (arl_cons arl_nil))) (ac_cons (vs 0) (ac_cons (vs 3) (ac_cons (vs 4) a0)))))))))) b0)))))
theorem ok_groups_of (G : Gm K mg) (T : TabT K mg base) : FnOk P w K mg base (L2.CX P w) 4 G.a_groups_of G.d_groups_of ["table", "line", "order"] (spD K mg 3 g_groups_of) :=
  okD G.F_groups_of sc_groups_of 3 rfl (fun X W cdv A outer s H E hX hr tk hp => by
  subst hX
  have hu := room65 hr
  have hu4 := room64 hr
  have hN := sc_groups_of.nd
  exact (ss_cons (sj_set (p := true) hN (ec_lst a0))
 (ss_cons (sj_set (p := true) hN (ES.ec ki))
 (ss_cons (sj_for (p := true) hp rfl (ei_enumF (ac_cons (vs 1) a0) G.n_enumerate) (TL.tx (tl_tup rfl (tls_cons (tj_name 5 hN) (tls_cons (tj_name 6 hN) tls_nil))))
 (ss_cons (sj_if (p := true) (EW.et (ew_and (et_cmp opD_gt (vp 5) (ES.ep ki)) (ew_and1 (et_not (et_val (ec_call (ok_are_alike G T) (hr.mono (by decide)) G.m_are_alike G.F_are_alike.kp G.b_are_alike tk (arl_cons (arl_cons (arl_cons (arl_cons arl_nil)))) (ac_cons (vs 0) (ac_cons (vs 2) (ac_cons (EC.es (ec_ix (vp 1) (EC.ep (ec_bin opD_sub (vp 5) (ES.ep ki))))) (ac_cons (vs 6) a0))))))))))
 (ss_one (sj_aug (p := true) (i := 4) hN ki))
 ss_nil)
 (ss_one (sj_drop (p := false) (ec_mut 3 F.slot_list_append F.type_list_append mu_append (ac_cons (vs 4) a0))))))
 (ss_one (sj_ret (p := true) (vm 3)))))))
theorem ok_is_place (G : Gm K mg) (T : TabT K mg base) : FnOk P w K mg base (L2.CX P w) 1 G.a_is_place G.d_is_place ["measure"] (spD K mg 1 g_is_place) :=
  okD G.F_is_place sc_is_place 1 rfl (fun X W cdv A outer s H E hX hr tk hp => by
  subst hX
  have hu := room65 hr
  have hu4 := room64 hr
  have hN := sc_is_place.nd
  exact (ss_one (sj_ret (p := true) (ec_cmp (opD_in hu) (EC.ep (ec_ix (vp 0) (ES.ep ki))) (ES.ep (es_gtup G.t_PLACES))))))
theorem ok_at_place (G : Gm K mg) (T : TabT K mg base) : FnOk P w K mg base (L2.CX P w) 1 G.a_at_place G.d_at_place ["found", "k"] (spD K mg 2 g_at_place) :=
  okD G.F_at_place sc_at_place 2 rfl (fun X W cdv A outer s H E hX hr tk hp => by
  subst hX
  have hu := room65 hr
  have hu4 := room64 hr
  have hN := sc_at_place.nd
  exact (ss_cons (sj_if (p := true) (et_chain opD_le opD_lt (ES.ep ki) (vp 1) (EC.ep (ec_callB cr_len G.n_len boot_len (ap_cons (vp 0) b0))))
 (ss_one (sj_ret (p := true) (ec_ix (vp 0) (vp 1))))
 ss_nil)
 (ss_one (sj_ret (p := true) (ES.ec kn)))))
theorem ok_measured (G : Gm K mg) (T : TabT K mg base) : FnOk P w K mg base (L2.CX P w) 2 G.a_measured G.d_measured ["table", "window", "measure"] (spD K mg 3 g_measured) :=
  okD G.F_measured sc_measured 3 rfl (fun X W cdv A outer s H E hX hr tk hp => by
  subst hX
  have hu := room65 hr
  have hu4 := room64 hr
  have hN := sc_measured.nd
  exact (ss_cons (sj_if (p := true) (et_cmp (opD_eq hu4) (vp 2) (ES.ep (es_tup (ac_cons ks a0))))
 (ss_one (sj_ret (p := true) (ec_callB cr_len G.n_len boot_len (ap_cons (vp 1) b0))))
 ss_nil)
 (ss_cons (sj_setComp (p := true) [("row", 5)] rfl hN (blkOk_by (by kernel_rfl)) rfl (ei_pk (vp 1)) (fun _ _ _ _ _ => (TJ.tx (tj_name 5 hN))) (fun _ _ _ _ _ => en0) (fun _ _ _ _ _ => (EC.es (ec_ix (EC.ep (ec_ix (EC.ep (ec_ix (vp 0) (ES.ep ki))) (vp 5))) (EC.ep (ec_call (ok_column G T) (hr.mono (by decide)) G.m_column G.F_column.kp G.b_column takes0 (arl_cons (arl_cons arl_nil)) (ac_cons (vs 0) (ac_cons (EC.es (ec_ix (vp 2) (ES.ep ki))) a0))))))))
 (ss_cons (sj_if (p := true) (et_cmp (opD_eq hu4) (EC.ep (ec_ix (vp 2) (ES.ep ki))) (ES.ep ks))
 (ss_one (sj_ret (p := true) (ec_call (ok_at_place G T) (hr.mono (by decide)) G.m_at_place G.F_at_place.kp G.b_at_place tk (arl_cons (arl_cons arl_nil)) (ac_cons (vs 3) (ac_cons ki a0)))))
 ss_nil)
 (ss_cons (sj_if (p := true) (et_cmp (opD_eq hu4) (EC.ep (ec_ix (vp 2) (ES.ep ki))) (ES.ep ks))
 (ss_one (sj_ret (p := true) (ec_call (ok_at_place G T) (hr.mono (by decide)) G.m_at_place G.F_at_place.kp G.b_at_place tk (arl_cons (arl_cons arl_nil)) (ac_cons (vs 3) (ac_cons (EC.es (ec_bin opD_sub (EC.ep (ec_callB cr_len G.n_len boot_len (ap_cons (vp 3) b0))) (ES.ep ki))) a0)))))
 ss_nil)
 (ss_cons (sj_if (p := true) (et_cmp (opD_eq hu4) (EC.ep (ec_ix (vp 2) (ES.ep ki))) (ES.ep ks))
 (ss_one (sj_ret (p := true) (ec_call (ok_at_place G T) (hr.mono (by decide)) G.m_at_place G.F_at_place.kp G.b_at_place tk (arl_cons (arl_cons arl_nil)) (ac_cons (vs 3) (ac_cons (EC.es (ec_bin opD_sub (EC.ep (ec_ix (vp 2) (ES.ep ki))) (ES.ep ki))) a0)))))
 ss_nil)
 (ss_cons (sj_setComp (p := true) [("one", 6)] rfl hN (blkOk_by (by kernel_rfl)) rfl (ei_pk (vp 3)) (fun _ _ _ _ _ => (TJ.tx (tj_name 6 hN))) (fun _ _ _ _ _ => (ets_one (et_cmp opD_isNot (vp 6) (ES.ep kn)))) (fun _ _ _ _ _ => (vs 6)))
 (ss_cons (sj_if (p := true) (et_cmp (opD_eq hu4) (EC.ep (ec_ix (vp 2) (ES.ep ki))) (ES.ep ks))
 (ss_one (sj_ret (p := true) (ec_callB cr_len G.n_len boot_len (ap_cons (vp 4) b0))))
 ss_nil)
 (ss_cons (sj_if (p := true) (et_cmp (opD_eq hu4) (vp 4) (EC.ep (ec_lst a0)))
 (ss_one (sj_ret (p := true) (ES.ec kn)))
 ss_nil)
 (ss_cons (sj_if (p := true) (et_cmp (opD_eq hu4) (EC.ep (ec_ix (vp 2) (ES.ep ki))) (ES.ep ks))
 (ss_one (sj_ret (p := true) (ec_callB (cr_sumD rfl) G.n_sum boot_sum (ap_cons (vp 4) b0))))
 ss_nil)
 (ss_cons (sj_if (p := true) (et_cmp (opD_eq hu4) (EC.ep (ec_ix (vp 2) (ES.ep ki))) (ES.ep ks))
 (ss_one (sj_ret (p := true) (ec_callB (cr_minD rfl) G.n_min boot_min (ap_cons (vp 4) b0))))
 ss_nil)
 (ss_one (sj_ret (p := true) (ec_callB (cr_maxD rfl) G.n_max boot_max (ap_cons (vp 4) b0)))))))))))))))
theorem ok_names_in (G : Gm K mg) (T : TabT K mg base) : FnOk P w K mg base (L2.CX P w) 1 G.a_names_in G.d_names_in ["measure"] (spD K mg 1 g_names_in) :=
  okD G.F_names_in sc_names_in 1 rfl (fun X W cdv A outer s H E hX hr tk hp => by
  subst hX
  have hu := room65 hr
  have hu4 := room64 hr
  have hN := sc_names_in.nd
  exact (ss_cons (sj_if (p := true) (et_cmp (opD_eq hu4) (EC.ep (ec_ix (vp 0) (ES.ep ki))) (ES.ep ks))
 (ss_one (sj_ret (p := true) (ec_lst a0)))
 ss_nil)
 (ss_one (sj_ret (p := true) (ec_callTy cr_list G.n_list boot_list (ap_cons (EC.ep (ec_slice (vp 0) (eo_some (ES.ep ki)) (eo_some (ES.ep ki)))) b0))))))
theorem ok_need_frame (G : Gm K mg) (T : TabT K mg base) : FnOk P w K mg base (L2.CX P w) 1 G.a_need_frame G.d_need_frame ["order", "frame"] (spD K mg 2 g_need_frame) :=
  okD G.F_need_frame sc_need_frame 2 rfl (fun X W cdv A outer s H E hX hr tk hp => by
  subst hX
  have hu := room65 hr
  have hu4 := room64 hr
  have hN := sc_need_frame.nd
  exact (ss_one (sj_if (p := true) (EW.et (ew_and (et_cmp (opD_eq hu4) (EC.ep (ec_ix (vp 1) (ES.ep ki))) (ES.ep ks)) (ew_and1 (et_cmp (opD_ne hu4) (EC.ep (ec_callB cr_len G.n_len boot_len (ap_cons (vp 0) b0))) (ES.ep ki)))))
 (ss_one (sj_raise G.x_NoFrame tk rfl))
 ss_nil)))
theorem ok_need_names (G : Gm K mg) (T : TabT K mg base) : FnOk P w K mg base (L2.CX P w) 2 G.a_need_names G.d_need_names ["table", "names"] (spD K mg 2 g_need_names) :=
  okD G.F_need_names sc_need_names 2 rfl (fun X W cdv A outer s H E hX hr tk hp => by
  subst hX
  have hu := room65 hr
  have hu4 := room64 hr
  have hN := sc_need_names.nd
  exact (ss_one (sj_for (p := true) hp rfl (ei_any (vs 1)) (TJ.tx (tj_name 2 hN))
 (ss_one (sj_drop (p := true) (ec_call (ok_column G T) (hr.mono (by decide)) G.m_column G.F_column.kp G.b_column tk (arl_cons (arl_cons arl_nil)) (ac_cons (vs 0) (ac_cons (vs 2) a0))))))))
theorem ok_need_asking (G : Gm K mg) (T : TabT K mg base) : FnOk P w K mg base (L2.CX P w) 3 G.a_need_asking G.d_need_asking ["table", "asking"] (spD K mg 2 g_need_asking) :=
  okD G.F_need_asking sc_need_asking 2 rfl (fun X W cdv A outer s H E hX hr tk hp => by
  subst hX
  have hu := room65 hr
  have hu4 := room64 hr
  have hN := sc_need_asking.nd
  exact (ss_cons (sj_un (p := true) (vs 1) (tl_tup rfl (tls_cons (tj_name 2 hN) (tls_cons (tj_name 3 hN) (tls_cons (tj_name 4 hN) (tls_cons (tj_name 5 hN) tls_nil))))))
 (ss_cons (sj_drop (p := true) (ec_call (ok_need_names G T) (hr.mono (by decide)) G.m_need_names G.F_need_names.kp G.b_need_names tk (arl_cons (arl_cons arl_nil)) (ac_cons (vs 0) (ac_cons (vs 2) a0))))
 (ss_cons (sj_drop (p := true) (ec_call (ok_need_names G T) (hr.mono (by decide)) G.m_need_names G.F_need_names.kp G.b_need_names tk (arl_cons (arl_cons arl_nil)) (ac_cons (vs 0) (ac_cons (EC.es (ec_comp [("pair", 6)] rfl hN (blkOk_by (by kernel_rfl)) (ei_pk (vp 3)) (fun _ _ _ _ _ => (TJ.tx (tj_name 6 hN))) (fun _ _ _ _ _ => en0) (fun _ _ _ _ _ => (EC.es (ec_ix (vp 6) (ES.ep ki)))))) a0))))
 (ss_cons (sj_drop (p := true) (ec_call (ok_need_names G T) (hr.mono (by decide)) G.m_need_names G.F_need_names.kp G.b_need_names tk (arl_cons (arl_cons arl_nil)) (ac_cons (vs 0) (ac_cons (EC.es (ec_call (ok_names_in G T) (hr.mono (by decide)) G.m_names_in G.F_names_in.kp G.b_names_in tk (arl_cons arl_nil) (ac_cons (vs 5) a0))) a0))))
 (ss_one (sj_if (p := true) (et_cmp opD_isNot (vp 4) (ES.ep kn))
 (ss_one (sj_drop (p := true) (ec_call (ok_need_frame G T) (hr.mono (by decide)) G.m_need_frame G.F_need_frame.kp G.b_need_frame tk (arl_cons (arl_cons arl_nil)) (ac_cons (vs 3) (ac_cons (vs 4) a0)))))
 ss_nil)))))))
theorem ok_rank_of (G : Gm K mg) (T : TabT K mg base) : FnOk P w K mg base (L2.CX P w) 1 G.a_rank_of G.d_rank_of ["found"] (spD K mg 1 g_rank_of) :=
  okD G.F_rank_of sc_rank_of 1 rfl (fun X W cdv A outer s H E hX hr tk hp => by
  subst hX
  have hu := room65 hr
  have hu4 := room64 hr
  have hN := sc_rank_of.nd
  exact (ss_cons (sj_if (p := true) (et_cmp opD_is (vp 0) (ES.ep kn))
 (ss_one (sj_ret (p := true) (ES.ec (es_tup (ac_cons ki (ac_cons ki a0))))))
 ss_nil)
 (ss_one (sj_ret (p := true) (ES.ec (es_tup (ac_cons ki (ac_cons (vs 0) a0))))))))
theorem ok_ordered (G : Gm K mg) (T : TabT K mg base) : FnOk P w K mg base (L2.CX P w) 6 G.a_ordered G.d_ordered ["table", "part", "order"] (spD K mg 3 g_ordered) :=
  okDT G.F_ordered sc_ordered 3 rfl T G.m_ordered (fun X W cdv A outer s H E hX hr tk hp htb => by
  subst hX
  have hu := room65 hr
  have hu4 := room64 hr
  have hN := sc_ordered.nd
  exact (ss_cons (sj_drop (p := true) (ec_call (ok_need_names G T) (hr.mono (by decide)) G.m_need_names G.F_need_names.kp G.b_need_names tk (arl_cons (arl_cons arl_nil)) (ac_cons (vs 0) (ac_cons (EC.es (ec_comp [("pair", 7)] rfl hN (blkOk_by (by kernel_rfl)) (ei_pk (vp 2)) (fun _ _ _ _ _ => (TJ.tx (tj_name 7 hN))) (fun _ _ _ _ _ => en0) (fun _ _ _ _ _ => (EC.es (ec_ix (vp 7) (ES.ep ki)))))) a0))))
 (ss_cons (sj_set (p := true) hN (ec_callB (cr_sortedD hu) G.n_sorted boot_sorted (ap_cons (vp 1) b0)))
 (ss_cons (sj_for (p := true) hp rfl (ei_rev (vs 2) G.n_reversed) (TJ.tx (TL.tj (tl_tup rfl (tls_cons (tj_name 4 hN) (tls_cons (tj_name 5 hN) tls_nil)))))
 (ss_cons (sj_set (p := true) hN (ec_call (ok_column G T) (hr.mono (by decide)) G.m_column G.F_column.kp G.b_column tk (arl_cons (arl_cons arl_nil)) (ac_cons (vs 0) (ac_cons (vs 4) a0))))
 (ss_one (sj_if (p := true) (et_cmp (opD_eq hu4) (vp 5) (ES.ep ks))
 (ss_one (sj_set (p := true) hN (ec_sortLam (k := 1) 8 kw_none G.n_sorted boot_sorted (vp 3) (hr.mono (by decide)) hN htb (fun f c1 s1 H1 hr => by
      have hu := room65 hr
      have hu4 := room64 hr
      exact (EC.es (ec_call (ok_rank_of G T) (hr.mono (by decide)) G.m_rank_of G.F_rank_of.kp G.b_rank_of takes0 (arl_cons arl_nil) (ac_cons (EC.es (ec_ix (EC.ep (ec_ix (EC.ep (ec_ix (vp 0) (ES.ep ki))) (vp 8))) (vp 6))) a0)))) (lamS1_by (by kernel_rfl)) (fun _ _ _ _ => rfl))))
 (ss_one (sj_set (p := true) hN (ec_sortLam (k := 1) 8 kw_rev G.n_sorted boot_sorted (vp 3) (hr.mono (by decide)) hN htb (fun f c1 s1 H1 hr => by
      have hu := room65 hr
      have hu4 := room64 hr
      exact (EC.es (ec_call (ok_rank_of G T) (hr.mono (by decide)) G.m_rank_of G.F_rank_of.kp G.b_rank_of takes0 (arl_cons arl_nil) (ac_cons (EC.es (ec_ix (EC.ep (ec_ix (EC.ep (ec_ix (vp 0) (ES.ep ki))) (vp 8))) (vp 6))) a0)))) (lamS1_by (by kernel_rfl)) (fun _ _ _ _ => rfl))))))))
 (ss_one (sj_ret (p := true) (vm 3)))))))
theorem ok_parts_of (G : Gm K mg) (T : TabT K mg base) : FnOk P w K mg base (L2.CX P w) 3 G.a_parts_of G.d_parts_of ["table", "by"] (spD K mg 2 g_parts_of) :=
  okD G.F_parts_of sc_parts_of 2 rfl (fun X W cdv A outer s H E hX hr tk hp => by
  subst hX
  have hu := room65 hr
  have hu4 := room64 hr
  have hN := sc_parts_of.nd
  exact (ss_cons (sj_drop (p := true) (ec_call (ok_need_names G T) (hr.mono (by decide)) G.m_need_names G.F_need_names.kp G.b_need_names tk (arl_cons (arl_cons arl_nil)) (ac_cons (vs 0) (ac_cons (vs 1) a0))))
 (ss_cons (sj_set (p := true) hN ec_gnew)
 (ss_cons (sj_for (p := true) hp rfl (ei_range1 (ap_cons (EC.ep (ec_callB cr_len G.n_len boot_len (ap_cons (EC.ep (ec_ix (vp 0) (ES.ep ki))) b0))) b0) G.n_range) (TJ.tx (tj_name 3 hN))
 (ss_one (sj_group 2 3 (EC.es (ec_callTy cr_tuple G.n_tuple boot_tuple (ap_cons (EC.ep (ec_comp [("name", 5)] rfl hN (blkOk_by (by kernel_rfl)) (ei_pk (vp 1)) (fun _ _ _ _ _ => (TJ.tx (tj_name 5 hN))) (fun _ _ _ _ _ => en0) (fun _ _ _ _ _ => (EC.es (ec_call (ok_worth G T) (hr.mono (by decide)) G.m_worth G.F_worth.kp G.b_worth takes0 (arl_cons (arl_cons (arl_cons arl_nil))) (ac_cons (vs 0) (ac_cons (vs 3) (ac_cons (vs 5) a0)))))))) b0))) (by omega))))
 (ss_one (sj_ret (p := false) (ec_comp [("part", 4)] rfl hN (blkOk_by (by kernel_rfl)) (ei_vals 2) (fun _ _ _ _ _ => (TJ.tx (tj_name 4 hN))) (fun _ _ _ _ _ => en0) (fun _ _ _ _ _ => (EC.es (ec_callTy cr_list G.n_list boot_list (ap_cons (vp 4) b0)))))))))))
theorem ok_piece_of (G : Gm K mg) (T : TabT K mg base) : FnOk P w K mg base (L2.CX P w) 1 G.a_piece_of G.d_piece_of ["many", "k", "at"] (spD K mg 3 g_piece_of) :=
  okD G.F_piece_of sc_piece_of 3 rfl (fun X W cdv A outer s H E hX hr tk hp => by
  subst hX
  have hu := room65 hr
  have hu4 := room64 hr
  have hN := sc_piece_of.nd
  exact (ss_cons (sj_divmod (p := true) (ap_cons (vp 0) (ap_cons (vp 1) b0)) G.n_divmod boot_divmod (tl_tup rfl (tls_cons (tj_name 3 hN) (tls_cons (tj_name 4 hN) tls_nil))))
 (ss_cons (sj_if (p := true) (et_cmp opD_lt (vp 2) (EC.ep (ec_bin opD_mul (vp 4) (EC.ep (ec_bin opD_add (vp 3) (ES.ep ki))))))
 (ss_one (sj_ret (p := true) (ec_bin opD_div (vp 2) (EC.ep (ec_bin opD_add (vp 3) (ES.ep ki))))))
 ss_nil)
 (ss_one (sj_ret (p := true) (ec_bin opD_add (vp 4) (EC.ep (ec_bin opD_div (EC.ep (ec_bin opD_sub (vp 2) (EC.ep (ec_bin opD_mul (vp 4) (EC.ep (ec_bin opD_add (vp 3) (ES.ep ki))))))) (vp 3)))))))))
theorem ok_placed (G : Gm K mg) (T : TabT K mg base) : FnOk P w K mg base (L2.CX P w) 3 G.a_placed G.d_placed ["table", "line", "groups", "measure", "at"] (spD K mg 5 g_placed) :=
  okD G.F_placed sc_placed 5 rfl (fun X W cdv A outer s H E hX hr tk hp => by
  subst hX
  have hu := room65 hr
  have hu4 := room64 hr
  have hN := sc_placed.nd
  exact (ss_cons (sj_if (p := true) (et_cmp (opD_eq hu4) (EC.ep (ec_ix (vp 3) (ES.ep ki))) (ES.ep ks))
 (ss_one (sj_ret (p := true) (vm 4)))
 ss_nil)
 (ss_cons (sj_if (p := true) (et_cmp (opD_eq hu4) (EC.ep (ec_ix (vp 3) (ES.ep ki))) (ES.ep ks))
 (ss_one (sj_ret (p := true) (ec_lindex hu (vp 2) (EC.ep (ec_ix (vp 2) (vp 4))))))
 ss_nil)
 (ss_cons (sj_if (p := true) (et_cmp (opD_eq hu4) (EC.ep (ec_ix (vp 3) (ES.ep ki))) (ES.ep ks))
 (ss_one (sj_ret (p := true) (ec_ix (vp 2) (vp 4))))
 ss_nil)
 (ss_cons (sj_if (p := true) (et_cmp (opD_eq hu4) (EC.ep (ec_ix (vp 3) (ES.ep ki))) (ES.ep ks))
 (ss_one (sj_ret (p := true) (ec_call (ok_piece_of G T) (hr.mono (by decide)) G.m_piece_of G.F_piece_of.kp G.b_piece_of tk (arl_cons (arl_cons (arl_cons arl_nil))) (ac_cons (EC.es (ec_callB cr_len G.n_len boot_len (ap_cons (vp 1) b0))) (ac_cons (EC.es (ec_ix (vp 3) (ES.ep ki))) (ac_cons (vs 4) a0))))))
 ss_nil)
 (ss_cons (sj_set (p := true) hN (ec_ix (vp 3) (ES.ep ki)))
 (ss_cons (sj_if (p := true) (et_cmp (opD_eq hu4) (EC.ep (ec_ix (vp 3) (ES.ep ki))) (ES.ep ks))
 (ss_one (sj_set (p := true) hN (ec_bin opD_sub (ES.ep ki) (vp 5))))
 ss_nil)
 (ss_cons (sj_set (p := true) hN (ec_call (ok_at_place G T) (hr.mono (by decide)) G.m_at_place G.F_at_place.kp G.b_at_place tk (arl_cons (arl_cons arl_nil)) (ac_cons (vs 1) (ac_cons (EC.es (ec_bin opD_add (vp 4) (vp 5))) a0))))
 (ss_cons (sj_if (p := true) (et_cmp opD_is (vp 6) (ES.ep kn))
 (ss_one (sj_ret (p := true) (ES.ec kn)))
 ss_nil)
 (ss_one (sj_ret (p := true) (ec_call (ok_worth G T) (hr.mono (by decide)) G.m_worth G.F_worth.kp G.b_worth tk (arl_cons (arl_cons (arl_cons arl_nil))) (ac_cons (vs 0) (ac_cons (vs 6) (ac_cons (EC.es (ec_ix (vp 3) (ES.ep ki))) a0)))))))))))))))
theorem ok_first_from (G : Gm K mg) (T : TabT K mg base) : FnOk P w K mg base (L2.CX P w) 1 G.a_first_from G.d_first_from ["numbers", "least"] (spD K mg 2 g_first_from) :=
  okD G.F_first_from sc_first_from 2 rfl (fun X W cdv A outer s H E hX hr tk hp => by
  subst hX
  have hu := room65 hr
  have hu4 := room64 hr
  have hN := sc_first_from.nd
  exact (ss_one (sj_ret (p := true) (ec_callB cr_len G.n_len boot_len (ap_cons (EC.ep (ec_comp [("number", 2)] rfl hN (blkOk_by (by kernel_rfl)) (ei_pk (vp 0)) (fun _ _ _ _ _ => (TJ.tx (tj_name 2 hN))) (fun _ _ _ _ _ => (ets_one (et_cmp opD_lt (vp 2) (vp 1)))) (fun _ _ _ _ _ => (vs 2)))) b0)))))
theorem ok_off (G : Gm K mg) (T : TabT K mg base) : FnOk P w K mg base (L2.CX P w) 1 G.a_off G.d_off ["bound"] (spD K mg 1 g_off) :=
  okD G.F_off sc_off 1 rfl (fun X W cdv A outer s H E hX hr tk hp => by
  subst hX
  have hu := room65 hr
  have hu4 := room64 hr
  have hN := sc_off.nd
  exact (ss_cons (sj_if (p := true) (et_cmp (opD_eq hu4) (EC.ep (ec_ix (vp 0) (ES.ep ki))) (ES.ep ks))
 (ss_one (sj_ret (p := true) (ec_bin opD_sub (ES.ep ki) (EC.ep (ec_ix (vp 0) (ES.ep ki))))))
 ss_nil)
 (ss_cons (sj_if (p := true) (et_cmp (opD_eq hu4) (EC.ep (ec_ix (vp 0) (ES.ep ki))) (ES.ep ks))
 (ss_one (sj_ret (p := true) (ec_ix (vp 0) (ES.ep ki))))
 ss_nil)
 (ss_one (sj_ret (p := true) (ES.ec ki))))))
theorem ok_far_worth (G : Gm K mg) (T : TabT K mg base) : FnOk P w K mg base (L2.CX P w) 2 G.a_far_worth G.d_far_worth ["found", "way", "bound"] (spD K mg 3 g_far_worth) :=
  okD G.F_far_worth sc_far_worth 3 rfl (fun X W cdv A outer s H E hX hr tk hp => by
  subst hX
  have hu := room65 hr
  have hu4 := room64 hr
  have hN := sc_far_worth.nd
  exact (ss_cons (sj_set (p := true) hN (ec_call (ok_off G T) (hr.mono (by decide)) G.m_off G.F_off.kp G.b_off tk (arl_cons arl_nil) (ac_cons (vs 2) a0)))
 (ss_cons (sj_if (p := true) (et_cmp (opD_eq hu4) (vp 1) (ES.ep ks))
 (ss_one (sj_set (p := true) hN (ec_bin opD_sub (ES.ep ki) (vp 3))))
 ss_nil)
 (ss_one (sj_ret (p := true) (ec_bin opD_add (vp 0) (vp 3)))))))
theorem ok_worth_ends (G : Gm K mg) (T : TabT K mg base) : FnOk P w K mg base (L2.CX P w) 3 G.a_worth_ends G.d_worth_ends ["table", "line", "order", "frame", "at"] (spD K mg 5 g_worth_ends) :=
  okD G.F_worth_ends sc_worth_ends 5 rfl (fun X W cdv A outer s H E hX hr tk hp => by
  subst hX
  have hu := room65 hr
  have hu4 := room64 hr
  have hN := sc_worth_ends.nd
  exact (ss_cons (sj_un (p := true) (EC.es (ec_ix (vp 2) (ES.ep ki))) (tl_tup rfl (tls_cons (tj_name 5 hN) (tls_cons (tj_name 6 hN) tls_nil))))
 (ss_cons (sj_setComp (p := true) [("row", 12)] rfl hN (blkOk_by (by kernel_rfl)) rfl (ei_pk (vp 1)) (fun _ _ _ _ _ => (TJ.tx (tj_name 12 hN))) (fun _ _ _ _ _ => en0) (fun _ _ _ _ _ => (EC.es (ec_call (ok_rank_of G T) (hr.mono (by decide)) G.m_rank_of G.F_rank_of.kp G.b_rank_of takes0 (arl_cons arl_nil) (ac_cons (EC.es (ec_call (ok_worth G T) (hr.mono (by decide)) G.m_worth G.F_worth.kp G.b_worth takes0 (arl_cons (arl_cons (arl_cons arl_nil))) (ac_cons (vs 0) (ac_cons (vs 12) (ac_cons (vs 5) a0))))) a0)))))
 (ss_cons (sj_set (p := true) hN (ec_call (ok_worth G T) (hr.mono (by decide)) G.m_worth G.F_worth.kp G.b_worth tk (arl_cons (arl_cons (arl_cons arl_nil))) (ac_cons (vs 0) (ac_cons (EC.es (ec_ix (vp 1) (vp 4))) (ac_cons (vs 5) a0)))))
 (ss_cons (sj_set (p := true) hN (ec_lst a0))
 (ss_cons (sj_for (p := true) hp rfl (ei_any (EC.es (ec_slice (vp 3) (eo_some (ES.ep ki)) (eo_some (ES.ep ki))))) (TJ.tx (tj_name 10 hN))
 (ss_cons (sj_set (p := true) hN (ec_call (ok_rank_of G T) (hr.mono (by decide)) G.m_rank_of G.F_rank_of.kp G.b_rank_of tk (arl_cons arl_nil) (ac_cons (vs 8) a0)))
 (ss_cons (sj_if (p := true) (EW.et (ew_and (et_cmp opD_isNot (vp 8) (ES.ep kn)) (ew_and1 (et_cmp (opD_notIn hu) (EC.ep (ec_ix (vp 10) (ES.ep ki))) (ES.ep (es_tup (ac_cons ks (ac_cons ks a0))))))))
 (ss_one (sj_set (p := true) hN (ec_call (ok_rank_of G T) (hr.mono (by decide)) G.m_rank_of G.F_rank_of.kp G.b_rank_of tk (arl_cons arl_nil) (ac_cons (EC.es (ec_call (ok_far_worth G T) (hr.mono (by decide)) G.m_far_worth G.F_far_worth.kp G.b_far_worth tk (arl_cons (arl_cons (arl_cons arl_nil))) (ac_cons (vs 8) (ac_cons (vs 6) (ac_cons (vs 10) a0))))) a0))))
 ss_nil)
 (ss_one (sj_if (p := true) (et_cmp (opD_eq hu4) (vp 6) (ES.ep ks))
 (ss_one (sj_drop (p := false) (ec_mut 9 F.slot_list_append F.type_list_append mu_append (ac_cons (es_tup (ac_cons (EC.es (ec_callB cr_len G.n_len boot_len (ap_cons (EC.ep (ec_comp [("r", 13)] rfl hN (blkOk_by (by kernel_rfl)) (ei_pk (vp 7)) (fun _ _ _ _ _ => (TJ.tx (tj_name 13 hN))) (fun _ _ _ _ _ => (ets_one (et_cmp (opD_ltD hu) (vp 13) (vp 11)))) (fun _ _ _ _ _ => (vs 13)))) b0))) (ac_cons (EC.es (ec_callB cr_len G.n_len boot_len (ap_cons (EC.ep (ec_comp [("r", 13)] rfl hN (blkOk_by (by kernel_rfl)) (ei_pk (vp 7)) (fun _ _ _ _ _ => (TJ.tx (tj_name 13 hN))) (fun _ _ _ _ _ => (ets_one (et_cmp (opD_leD hu) (vp 13) (vp 11)))) (fun _ _ _ _ _ => (vs 13)))) b0))) a0))) a0))))
 (ss_one (sj_drop (p := false) (ec_mut 9 F.slot_list_append F.type_list_append mu_append (ac_cons (es_tup (ac_cons (EC.es (ec_callB cr_len G.n_len boot_len (ap_cons (EC.ep (ec_comp [("r", 13)] rfl hN (blkOk_by (by kernel_rfl)) (ei_pk (vp 7)) (fun _ _ _ _ _ => (TJ.tx (tj_name 13 hN))) (fun _ _ _ _ _ => (ets_one (et_cmp (opD_gtD hu) (vp 13) (vp 11)))) (fun _ _ _ _ _ => (vs 13)))) b0))) (ac_cons (EC.es (ec_callB cr_len G.n_len boot_len (ap_cons (EC.ep (ec_comp [("r", 13)] rfl hN (blkOk_by (by kernel_rfl)) (ei_pk (vp 7)) (fun _ _ _ _ _ => (TJ.tx (tj_name 13 hN))) (fun _ _ _ _ _ => (ets_one (et_cmp (opD_geD hu) (vp 13) (vp 11)))) (fun _ _ _ _ _ => (vs 13)))) b0))) a0))) a0)))))))))
 (ss_one (sj_ret (p := true) (ES.ec (es_tup (ac_cons (EC.es (ec_ix (EC.ep (ec_ix (vp 9) (ES.ep ki))) (ES.ep ki))) (ac_cons (EC.es (ec_ix (EC.ep (ec_ix (vp 9) (ES.ep ki))) (ES.ep ki))) a0))))))))))))
theorem ok_ends_of (G : Gm K mg) (T : TabT K mg base) : FnOk P w K mg base (L2.CX P w) 5 G.a_ends_of G.d_ends_of ["table", "line", "order", "frame", "at"] (spD K mg 5 g_ends_of) :=
  okD G.F_ends_of sc_ends_of 5 rfl (fun X W cdv A outer s H E hX hr tk hp => by
  subst hX
  have hu := room65 hr
  have hu4 := room64 hr
  have hN := sc_ends_of.nd
  exact (ss_cons (sj_un (p := true) (vs 3) (tl_tup rfl (tls_cons (tj_name 5 hN) (tls_cons (tj_name 6 hN) (tls_cons (tj_name 7 hN) (tls_cons (tj_name 8 hN) tls_nil))))))
 (ss_cons (sj_if (p := true) (et_cmp (opD_eq hu4) (vp 5) (ES.ep ks))
 (ss_one (sj_un (p := true) (EC.es (ec_call (ok_worth_ends G T) (hr.mono (by decide)) G.m_worth_ends G.F_worth_ends.kp G.b_worth_ends tk (arl_cons (arl_cons (arl_cons (arl_cons (arl_cons arl_nil))))) (ac_cons (vs 0) (ac_cons (vs 1) (ac_cons (vs 2) (ac_cons (vs 3) (ac_cons (vs 4) a0))))))) (tl_tup rfl (tls_cons (tj_name 9 hN) (tls_cons (tj_name 10 hN) tls_nil)))))
 (ss_cons (sj_set (p := true) hN (ec_listRange rfl G.n_list G.n_range (ap_cons (EC.ep (ec_callB cr_len G.n_len boot_len (ap_cons (vp 1) b0))) b0)))
 (ss_cons (sj_if (p := true) (et_cmp (opD_eq hu4) (vp 5) (ES.ep ks))
 (ss_one (sj_set (p := true) hN (ec_call (ok_groups_of G T) (hr.mono (by decide)) G.m_groups_of G.F_groups_of.kp G.b_groups_of tk (arl_cons (arl_cons (arl_cons arl_nil))) (ac_cons (vs 0) (ac_cons (vs 1) (ac_cons (vs 2) a0))))))
 ss_nil)
 (ss_cons (sj_set (p := true) hN (ec_call (ok_first_from G T) (hr.mono (by decide)) G.m_first_from G.F_first_from.kp G.b_first_from tk (arl_cons (arl_cons arl_nil)) (ac_cons (vs 11) (ac_cons (EC.es (ec_bin opD_add (EC.ep (ec_ix (vp 11) (vp 4))) (EC.ep (ec_call (ok_off G T) (hr.mono (by decide)) G.m_off G.F_off.kp G.b_off tk (arl_cons arl_nil) (ac_cons (vs 6) a0))))) a0))))
 (ss_one (sj_set (p := true) hN (ec_call (ok_first_from G T) (hr.mono (by decide)) G.m_first_from G.F_first_from.kp G.b_first_from tk (arl_cons (arl_cons arl_nil)) (ac_cons (vs 11) (ac_cons (EC.es (ec_bin opD_add (EC.ep (ec_bin opD_add (EC.ep (ec_ix (vp 11) (vp 4))) (EC.ep (ec_call (ok_off G T) (hr.mono (by decide)) G.m_off G.F_off.kp G.b_off tk (arl_cons arl_nil) (ac_cons (vs 7) a0))))) (ES.ep ki))) a0)))))))))
 (ss_cons (sj_if (p := true) (et_cmp (opD_eq hu4) (EC.ep (ec_ix (vp 6) (ES.ep ki))) (ES.ep ks))
 (ss_one (sj_set (p := true) hN (ES.ec ki)))
 ss_nil)
 (ss_cons (sj_if (p := true) (et_cmp (opD_eq hu4) (EC.ep (ec_ix (vp 7) (ES.ep ki))) (ES.ep ks))
 (ss_one (sj_set (p := true) hN (ec_callB cr_len G.n_len boot_len (ap_cons (vp 1) b0))))
 ss_nil)
 (ss_one (sj_ret (p := true) (ES.ec (es_tup (ac_cons (vs 9) (ac_cons (EC.es (ec_callB (cr_max2 rfl) G.n_max boot_max (ap_cons (vp 9) (ap_cons (vp 10) b0)))) a0)))))))))))
theorem ok_left_out (G : Gm K mg) (T : TabT K mg base) : FnOk P w K mg base (L2.CX P w) 4 G.a_left_out G.d_left_out ["table", "order", "but", "row", "other"] (spD K mg 5 g_left_out) :=
  okD G.F_left_out sc_left_out 5 rfl (fun X W cdv A outer s H E hX hr tk hp => by
  subst hX
  have hu := room65 hr
  have hu4 := room64 hr
  have hN := sc_left_out.nd
  exact (ss_cons (sj_if (p := true) (et_cmp (opD_eq hu4) (vp 2) (ES.ep ks))
 (ss_one (sj_ret (p := true) (ES.ec kb)))
 ss_nil)
 (ss_cons (sj_if (p := true) (et_cmp (opD_eq hu4) (vp 3) (vp 4))
 (ss_one (sj_ret (p := true) (ec_cmp (opD_ne hu4) (vp 2) (ES.ep ks))))
 ss_nil)
 (ss_one (sj_ret (p := true) (ES.ec (es_and (EC.es (ec_cmp (opD_ne hu4) (vp 2) (ES.ep ks))) (es_one (EC.es (ec_call (ok_are_alike G T) (hr.mono (by decide)) G.m_are_alike G.F_are_alike.kp G.b_are_alike tk (arl_cons (arl_cons (arl_cons (arl_cons arl_nil)))) (ac_cons (vs 0) (ac_cons (vs 1) (ac_cons (vs 3) (ac_cons (vs 4) a0))))))))))))))
theorem ok_window_at (G : Gm K mg) (T : TabT K mg base) : FnOk P w K mg base (L2.CX P w) 6 G.a_window_at G.d_window_at ["table", "line", "order", "frame", "at"] (spD K mg 5 g_window_at) :=
  okD G.F_window_at sc_window_at 5 rfl (fun X W cdv A outer s H E hX hr tk hp => by
  subst hX
  have hu := room65 hr
  have hu4 := room64 hr
  have hN := sc_window_at.nd
  exact (ss_cons (sj_un (p := true) (EC.es (ec_call (ok_ends_of G T) (hr.mono (by decide)) G.m_ends_of G.F_ends_of.kp G.b_ends_of tk (arl_cons (arl_cons (arl_cons (arl_cons (arl_cons arl_nil))))) (ac_cons (vs 0) (ac_cons (vs 1) (ac_cons (vs 2) (ac_cons (vs 3) (ac_cons (vs 4) a0))))))) (tl_tup rfl (tls_cons (tj_name 5 hN) (tls_cons (tj_name 6 hN) tls_nil))))
 (ss_one (sj_ret (p := true) (ec_comp [("row", 7)] rfl hN (blkOk_by (by kernel_rfl)) (ei_pk (EC.ep (ec_slice (vp 1) (eo_some (vp 5)) (eo_some (vp 6))))) (fun _ _ _ _ _ => (TJ.tx (tj_name 7 hN))) (fun _ _ _ _ _ => (ets_one (et_not (et_val (ec_call (ok_left_out G T) (hr.mono (by decide)) G.m_left_out G.F_left_out.kp G.b_left_out takes0 (arl_cons (arl_cons (arl_cons (arl_cons (arl_cons arl_nil))))) (ac_cons (vs 0) (ac_cons (vs 2) (ac_cons (EC.es (ec_ix (vp 3) (ES.ep ki))) (ac_cons (EC.es (ec_ix (vp 1) (vp 4))) (ac_cons (vs 7) a0)))))))))) (fun _ _ _ _ _ => (vs 7)))))))
theorem ok_asked (G : Gm K mg) (T : TabT K mg base) : FnOk P w K mg base (L2.CX P w) 7 G.a_asked G.d_asked ["table", "asking"] (spD K mg 2 g_asked) :=
  okD G.F_asked sc_asked 2 rfl (fun X W cdv A outer s H E hX hr tk hp => by
  subst hX
  have hu := room65 hr
  have hu4 := room64 hr
  have hN := sc_asked.nd
  exact (ss_cons (sj_drop (p := true) (ec_call (ok_need_asking G T) (hr.mono (by decide)) G.m_need_asking G.F_need_asking.kp G.b_need_asking tk (arl_cons (arl_cons arl_nil)) (ac_cons (vs 0) (ac_cons (vs 1) a0))))
 (ss_cons (sj_un (p := true) (vs 1) (tl_tup rfl (tls_cons (tj_name 2 hN) (tls_cons (tj_name 3 hN) (tls_cons (tj_name 4 hN) (tls_cons (tj_name 5 hN) tls_nil))))))
 (ss_cons (sj_setComp (p := true) [("row", 11)] rfl hN (blkOk_by (by kernel_rfl)) rfl (ei_pk (EC.ep (ec_ix (vp 0) (ES.ep ki)))) (fun _ _ _ _ _ => (TJ.tx (tj_name 11 hN))) (fun _ _ _ _ _ => en0) (fun _ _ _ _ _ => kn))
 (ss_cons (sj_for (p := true) hp rfl (ei_any (EC.es (ec_call (ok_parts_of G T) (hr.mono (by decide)) G.m_parts_of G.F_parts_of.kp G.b_parts_of tk (arl_cons (arl_cons arl_nil)) (ac_cons (vs 0) (ac_cons (vs 2) a0))))) (TJ.tx (tj_name 7 hN))
 (ss_cons (sj_set (p := true) hN (ec_call (ok_ordered G T) (hr.mono (by decide)) G.m_ordered G.F_ordered.kp G.b_ordered tk (arl_cons (arl_cons (arl_cons arl_nil))) (ac_cons (vs 0) (ac_cons (vs 7) (ac_cons (vs 3) a0)))))
 (ss_cons (sj_set (p := true) hN (ec_call (ok_groups_of G T) (hr.mono (by decide)) G.m_groups_of G.F_groups_of.kp G.b_groups_of tk (arl_cons (arl_cons (arl_cons arl_nil))) (ac_cons (vs 0) (ac_cons (vs 8) (ac_cons (vs 3) a0)))))
 (ss_one (sj_for (p := true) hp rfl (ei_enumF (ac_cons (vs 8) a0) G.n_enumerate) (TL.tx (tl_tup rfl (tls_cons (tj_name 10 hN) (tls_cons (tj_name 11 hN) tls_nil))))
 (ss_one (sj_if (p := true) (et_val (ec_call (ok_is_place G T) (hr.mono (by decide)) G.m_is_place G.F_is_place.kp G.b_is_place tk (arl_cons arl_nil) (ac_cons (vs 5) a0)))
 (ss_one (sj_setIx (p := true) (i := 6) (EC.es (ec_call (ok_placed G T) (hr.mono (by decide)) G.m_placed G.F_placed.kp G.b_placed tk (arl_cons (arl_cons (arl_cons (arl_cons (arl_cons arl_nil))))) (ac_cons (vs 0) (ac_cons (vs 8) (ac_cons (vs 9) (ac_cons (vs 5) (ac_cons (vs 10) a0))))))) (vp 11)))
 (ss_one (sj_setIx (p := true) (i := 6) (EC.es (ec_call (ok_measured G T) (hr.mono (by decide)) G.m_measured G.F_measured.kp G.b_measured tk (arl_cons (arl_cons (arl_cons arl_nil))) (ac_cons (vs 0) (ac_cons (EC.es (ec_call (ok_window_at G T) (hr.mono (by decide)) G.m_window_at G.F_window_at.kp G.b_window_at tk (arl_cons (arl_cons (arl_cons (arl_cons (arl_cons arl_nil))))) (ac_cons (vs 0) (ac_cons (vs 8) (ac_cons (vs 3) (ac_cons (vs 4) (ac_cons (vs 10) a0))))))) (ac_cons (vs 5) a0))))) (vp 11))))))))))
 (ss_one (sj_ret (p := true) (vm 6))))))))
theorem ok_law_k39 (G : Gm K mg) (T : TabT K mg base) : FnOk P w K mg base (L2.CX P w) 8 G.a_law_k39 G.d_law_k39 ["script"] (spD K mg 1 g_law_k39) :=
  okD G.F_law_k39 sc_law_k39 1 rfl (fun X W cdv A outer s H E hX hr tk hp => by
  subst hX
  have hu := room65 hr
  have hu4 := room64 hr
  have hN := sc_law_k39.nd
  exact (ss_cons (sj_set (p := true) hN (ec_call (ok_law_a_table G T) (hr.mono (by decide)) G.m_law_a_table G.F_law_a_table.kp G.b_law_a_table tk (arl_cons (arl_cons (arl_cons arl_nil))) (ac_cons (vs 0) (ac_cons ki (ac_cons ki a0)))))
 (ss_cons (sj_un (p := true) (vs 1) (tl_tup rfl (tls_cons (tj_name 2 hN) (tls_cons (tj_name 3 hN) tls_nil))))
 (ss_cons (sj_set (p := true) hN (ec_call (ok_law_a_draws G T) (hr.mono (by decide)) G.m_law_a_draws G.F_law_a_draws.kp G.b_law_a_draws tk (arl_cons (arl_cons (arl_cons arl_nil))) (ac_cons (EC.es (ec_call (ok_law_cell_at G T) (hr.mono (by decide)) G.m_law_cell_at G.F_law_cell_at.kp G.b_law_cell_at tk (arl_cons (arl_cons arl_nil)) (ac_cons (vs 0) (ac_cons ki a0)))) (ac_cons ki (ac_cons (EC.es (ec_bin opD_pow (ES.ep ki) (ES.ep ki))) a0)))))
 (ss_cons (sj_set (p := true) hN (ec_call (ok_law_a_asking_k38 G T) (hr.mono (by decide)) G.m_law_a_asking_k38 G.F_law_a_asking_k38.kp G.b_law_a_asking_k38 tk (arl_cons (arl_cons arl_nil)) (ac_cons (vs 2) (ac_cons (vs 4) a0))))
 (ss_cons (sj_setComp (p := true) [("pick", 17)] rfl hN (blkOk_by (by kernel_rfl)) rfl (ei_pk (EC.ep (ec_slice (vp 4) (eo_some (ES.ep ki)) (eo_some (EC.ep (ec_bin opD_add (ES.ep ki) (EC.ep (ec_bin opD_mod (EC.ep (ec_ix (vp 4) (ES.ep ki))) (ES.ep ki))))))))) (fun _ _ _ _ _ => (TJ.tx (tj_name 17 hN))) (fun _ _ _ _ _ => en0) (fun _ _ _ _ _ => (EC.es (ec_ix (vp 2) (EC.ep (ec_bin opD_mod (vp 17) (EC.ep (ec_callB cr_len G.n_len boot_len (ap_cons (vp 2) b0)))))))))
 (ss_cons (sj_set (p := true) hN (ec_bin opD_add (EC.ep (ec_ix (vp 5) (ES.ep ki))) (EC.ep (ec_callTy cr_tuple G.n_tuple boot_tuple (ap_cons (vp 6) b0)))))
 (ss_cons (sj_set (p := true) hN (ec_bin opD_add (ES.ep (es_tup (ac_cons (vs 7) a0))) (EC.ep (ec_slice (vp 5) (eo_some (ES.ep ki)) en))))
 (ss_cons (sj_set (p := true) hN (ec_call (ok_asked G T) (hr.mono (by decide)) G.m_asked G.F_asked.kp G.b_asked tk (arl_cons (arl_cons arl_nil)) (ac_cons (vs 1) (ac_cons (vs 5) a0))))
 (ss_cons (sj_set (p := true) hN (ec_call (ok_parts_of G T) (hr.mono (by decide)) G.m_parts_of G.F_parts_of.kp G.b_parts_of tk (arl_cons (arl_cons arl_nil)) (ac_cons (vs 1) (ac_cons (vs 7) a0))))
 (ss_cons (sj_for (p := true) hp rfl (ei_any (EC.es (ec_bin opD_add (EC.ep (ec_slice (vp 9) en (eo_some (ES.ep ki)))) (EC.ep (ec_slice (vp 9) (eo_some (EC.ep (ec_neg ki))) en))))) (TJ.tx (tj_name 10 hN))
 (ss_cons (sj_set (p := true) hN (ec_call (ok_asked G T) (hr.mono (by decide)) G.m_asked G.F_asked.kp G.b_asked tk (arl_cons (arl_cons arl_nil)) (ac_cons (es_tup (ac_cons (vs 2) (ac_cons (EC.es (ec_comp [("row", 16)] rfl hN (blkOk_by (by kernel_rfl)) (ei_pk (vp 10)) (fun _ _ _ _ _ => (TJ.tx (tj_name 16 hN))) (fun _ _ _ _ _ => en0) (fun _ _ _ _ _ => (EC.es (ec_ix (vp 3) (vp 16)))))) a0))) (ac_cons (vs 5) a0))))
 (ss_one (sj_if (p := true) (et_cmp (opD_ne hu4) (vp 14) (EC.ep (ec_comp [("row", 16)] rfl hN (blkOk_by (by kernel_rfl)) (ei_pk (vp 10)) (fun _ _ _ _ _ => (TJ.tx (tj_name 16 hN))) (fun _ _ _ _ _ => en0) (fun _ _ _ _ _ => (EC.es (ec_ix (vp 8) (vp 16)))))))
 (ss_one (sj_ret (p := true) (ES.ec kb)))
 ss_nil))))
 (ss_cons (sj_if (p := true) (et_cmp (opD_ne hu4) (vp 7) (ES.ep (es_tup a0)))
 (ss_cons (sj_set (p := true) hN (ec_tindex (vp 2) (EC.ep (ec_ix (vp 7) (ES.ep ki)))))
 (ss_cons (sj_set (p := true) hN (ec_bin opD_add (EC.ep (ec_bin opD_add (EC.ep (ec_bin opD_mul (ES.ep (es_tup (ac_cons ki a0))) (vp 15))) (ES.ep (es_tup (ac_cons (EC.es (ec_bin opD_pow (ES.ep ki) (ES.ep ki))) a0))))) (EC.ep (ec_bin opD_mul (ES.ep (es_tup (ac_cons ki a0))) (EC.ep (ec_bin opD_sub (EC.ep (ec_bin opD_sub (EC.ep (ec_callB cr_len G.n_len boot_len (ap_cons (vp 2) b0))) (vp 15))) (ES.ep ki)))))))
 (ss_one (sj_if (p := true) (et_cmp (opD_ne hu4) (EC.ep (ec_slice (EC.ep (ec_call (ok_asked G T) (hr.mono (by decide)) G.m_asked G.F_asked.kp G.b_asked tk (arl_cons (arl_cons arl_nil)) (ac_cons (es_tup (ac_cons (vs 2) (ac_cons (EC.es (ec_slice (EC.ep (ec_bin opD_add (vp 3) (EC.ep (ec_lst (ac_cons (vs 16) a0))))) en (eo_some (ES.ep ki)))) a0))) (ac_cons (vs 5) a0)))) en (eo_some (EC.ep (ec_callB cr_len G.n_len boot_len (ap_cons (vp 3) b0)))))) (vp 8))
 (ss_one (sj_ret (p := true) (ES.ec kb)))
 ss_nil))))
 ss_nil)
 (ss_cons (sj_if (p := true) (et_cmp (opD_ne hu4) (EC.ep (ec_call (ok_asked G T) (hr.mono (by decide)) G.m_asked G.F_asked.kp G.b_asked tk (arl_cons (arl_cons arl_nil)) (ac_cons (EC.es (ec_call (ok_law_turned G T) (hr.mono (by decide)) G.m_law_turned G.F_law_turned.kp G.b_law_turned tk (arl_cons (arl_cons arl_nil)) (ac_cons (vs 1) (ac_cons (EC.es (ec_bin opD_mod (EC.ep (ec_ix (vp 4) (ES.ep ki))) (EC.ep (ec_callB cr_len G.n_len boot_len (ap_cons (vp 2) b0))))) a0)))) (ac_cons (vs 5) a0)))) (vp 8))
 (ss_one (sj_ret (p := true) (ES.ec kb)))
 ss_nil)
 (ss_cons (sj_set (p := true) hN (ec_bin opD_add (EC.ep (ec_bin opD_add (EC.ep (ec_callTy cr_list G.n_list boot_list (ap_cons (vp 7) b0))) (EC.ep (ec_comp [("pair", 18)] rfl hN (blkOk_by (by kernel_rfl)) (ei_pk (EC.ep (ec_ix (vp 5) (ES.ep ki)))) (fun _ _ _ _ _ => (TJ.tx (tj_name 18 hN))) (fun _ _ _ _ _ => en0) (fun _ _ _ _ _ => (EC.es (ec_ix (vp 18) (ES.ep ki)))))))) (EC.ep (ec_callTy cr_list G.n_list boot_list (ap_cons (EC.ep (ec_slice (EC.ep (ec_ix (vp 5) (ES.ep ki))) (eo_some (ES.ep ki)) (eo_some (ES.ep ki)))) b0)))))
 (ss_cons (sj_setComp (p := true) [("k", 13)] rfl hN (blkOk_by (by kernel_rfl)) rfl (ei_range1 (ap_cons (EC.ep (ec_callB cr_len G.n_len boot_len (ap_cons (vp 2) b0))) b0) G.n_range) (fun _ _ _ _ _ => (TJ.tx (tj_name 13 hN))) (fun _ _ _ _ _ => (ets_one (et_cmp (opD_notIn hu) (EC.ep (ec_ix (vp 2) (vp 13))) (vp 11)))) (fun _ _ _ _ _ => (vs 13)))
 (ss_cons (sj_for (p := true) hp rfl (ei_any (EC.es (ec_slice (vp 12) en (eo_some (ES.ep ki))))) (TJ.tx (tj_name 13 hN))
 (ss_cons (sj_setComp (p := true) [("row", 16)] rfl hN (blkOk_by (by kernel_rfl)) rfl (ei_pk (vp 3)) (fun _ _ _ _ _ => (TJ.tx (tj_name 16 hN))) (fun _ _ _ _ _ => en0) (fun _ _ _ _ _ => (EC.es (ec_bin opD_add (EC.ep (ec_bin opD_add (EC.ep (ec_slice (vp 16) en (eo_some (vp 13)))) (ES.ep (es_tup (ac_cons (EC.es (ec_ix (vp 4) (ES.ep ki))) a0))))) (EC.ep (ec_slice (vp 16) (eo_some (EC.ep (ec_bin opD_add (vp 13) (ES.ep ki)))) en))))))
 (ss_one (sj_if (p := true) (et_cmp (opD_ne hu4) (EC.ep (ec_call (ok_asked G T) (hr.mono (by decide)) G.m_asked G.F_asked.kp G.b_asked tk (arl_cons (arl_cons arl_nil)) (ac_cons (es_tup (ac_cons (vs 2) (ac_cons (vs 6) a0))) (ac_cons (vs 5) a0)))) (vp 8))
 (ss_one (sj_ret (p := true) (ES.ec kb)))
 ss_nil))))
 (ss_one (sj_ret (p := true) (ES.ec kb)))))))))))))))))))
end
def dd_law_a_by : He.DefD := ⟨("_law_a_by", none), "_law_a_by", "_law_a_by", defArgs s_law_a_by, defBody s_law_a_by, defScope s_law_a_by, [], []⟩
def dd_law_bound : He.DefD := ⟨("_law_bound", none), "_law_bound", "_law_bound", defArgs s_law_bound, defBody s_law_bound, defScope s_law_bound, [], []⟩
def dd_law_a_frame_k08 : He.DefD := ⟨("_law_a_frame", none), "_law_a_frame", "_law_a_frame", defArgs s_law_a_frame_k08, defBody s_law_a_frame_k08, defScope s_law_a_frame_k08, [], []⟩
def dd_law_a_order : He.DefD := ⟨("_law_a_order", none), "_law_a_order", "_law_a_order", defArgs s_law_a_order, defBody s_law_a_order, defScope s_law_a_order, [], []⟩
def dd_law_measure : He.DefD := ⟨("_law_measure", none), "_law_measure", "_law_measure", defArgs s_law_measure, defBody s_law_measure, defScope s_law_measure, [], []⟩
def dd_law_place : He.DefD := ⟨("_law_place", none), "_law_place", "_law_place", defArgs s_law_place, defBody s_law_place, defScope s_law_place, [], []⟩
def dd_law_a_asking_k38 : He.DefD := ⟨("_law_a_asking", none), "_law_a_asking", "_law_a_asking", defArgs s_law_a_asking_k38, defBody s_law_a_asking_k38, defScope s_law_a_asking_k38, [], []⟩
def dd_law_a_draws : He.DefD := ⟨("_law_a_draws", none), "_law_a_draws", "_law_a_draws", defArgs s_law_a_draws, defBody s_law_a_draws, defScope s_law_a_draws, [], []⟩
def dd_law_a_names : He.DefD := ⟨("_law_a_names", none), "_law_a_names", "_law_a_names", defArgs s_law_a_names, defBody s_law_a_names, defScope s_law_a_names, [], []⟩
def dd_law_cell_at : He.DefD := ⟨("_law_cell_at", none), "_law_cell_at", "_law_cell_at", defArgs s_law_cell_at, defBody s_law_cell_at, defScope s_law_cell_at, [], []⟩
def dd_law_a_table : He.DefD := ⟨("_law_a_table", none), "_law_a_table", "_law_a_table", defArgs s_law_a_table, defBody s_law_a_table, defScope s_law_a_table, [], []⟩
def dd_law_turned : He.DefD := ⟨("_law_turned", none), "_law_turned", "_law_turned", defArgs s_law_turned, defBody s_law_turned, defScope s_law_turned, [], []⟩
def dd_column : He.DefD := ⟨("column", none), "column", "column", defArgs s_column, defBody s_column, defScope s_column, [], []⟩
def dd_worth : He.DefD := ⟨("worth", none), "worth", "worth", defArgs s_worth, defBody s_worth, defScope s_worth, [], []⟩
def dd_are_alike : He.DefD := ⟨("are_alike", none), "are_alike", "are_alike", defArgs s_are_alike, defBody s_are_alike, defScope s_are_alike, [], []⟩
def dd_groups_of : He.DefD := ⟨("groups_of", none), "groups_of", "groups_of", defArgs s_groups_of, defBody s_groups_of, defScope s_groups_of, [], []⟩
def dd_is_place : He.DefD := ⟨("is_place", none), "is_place", "is_place", defArgs s_is_place, defBody s_is_place, defScope s_is_place, [], []⟩
def dd_at_place : He.DefD := ⟨("at_place", none), "at_place", "at_place", defArgs s_at_place, defBody s_at_place, defScope s_at_place, [], []⟩
def dd_measured : He.DefD := ⟨("measured", none), "measured", "measured", defArgs s_measured, defBody s_measured, defScope s_measured, [], []⟩
def dd_names_in : He.DefD := ⟨("names_in", none), "names_in", "names_in", defArgs s_names_in, defBody s_names_in, defScope s_names_in, [], []⟩
def dd_need_frame : He.DefD := ⟨("need_frame", none), "need_frame", "need_frame", defArgs s_need_frame, defBody s_need_frame, defScope s_need_frame, [], []⟩
def dd_need_names : He.DefD := ⟨("need_names", none), "need_names", "need_names", defArgs s_need_names, defBody s_need_names, defScope s_need_names, [], []⟩
def dd_need_asking : He.DefD := ⟨("need_asking", none), "need_asking", "need_asking", defArgs s_need_asking, defBody s_need_asking, defScope s_need_asking, [], []⟩
def dd_rank_of : He.DefD := ⟨("rank_of", none), "rank_of", "rank_of", defArgs s_rank_of, defBody s_rank_of, defScope s_rank_of, [], []⟩
def dd_ordered : He.DefD := ⟨("ordered", none), "ordered", "ordered", defArgs s_ordered, defBody s_ordered, defScope s_ordered, [], []⟩
def dd_parts_of : He.DefD := ⟨("parts_of", none), "parts_of", "parts_of", defArgs s_parts_of, defBody s_parts_of, defScope s_parts_of, [], []⟩
def dd_piece_of : He.DefD := ⟨("piece_of", none), "piece_of", "piece_of", defArgs s_piece_of, defBody s_piece_of, defScope s_piece_of, [], []⟩
def dd_placed : He.DefD := ⟨("placed", none), "placed", "placed", defArgs s_placed, defBody s_placed, defScope s_placed, [], []⟩
def dd_first_from : He.DefD := ⟨("first_from", none), "first_from", "first_from", defArgs s_first_from, defBody s_first_from, defScope s_first_from, [], []⟩
def dd_off : He.DefD := ⟨("off", none), "off", "off", defArgs s_off, defBody s_off, defScope s_off, [], []⟩
def dd_far_worth : He.DefD := ⟨("far_worth", none), "far_worth", "far_worth", defArgs s_far_worth, defBody s_far_worth, defScope s_far_worth, [], []⟩
def dd_worth_ends : He.DefD := ⟨("worth_ends", none), "worth_ends", "worth_ends", defArgs s_worth_ends, defBody s_worth_ends, defScope s_worth_ends, [], []⟩
def dd_ends_of : He.DefD := ⟨("ends_of", none), "ends_of", "ends_of", defArgs s_ends_of, defBody s_ends_of, defScope s_ends_of, [], []⟩
def dd_left_out : He.DefD := ⟨("left_out", none), "left_out", "left_out", defArgs s_left_out, defBody s_left_out, defScope s_left_out, [], []⟩
def dd_window_at : He.DefD := ⟨("window_at", none), "window_at", "window_at", defArgs s_window_at, defBody s_window_at, defScope s_window_at, [], []⟩
def dd_asked : He.DefD := ⟨("asked", none), "asked", "asked", defArgs s_asked, defBody s_asked, defScope s_asked, [], []⟩
def dd_law_k39 : He.DefD := ⟨("law", none), "law", "law", defArgs s_law_k39, defBody s_law_k39, defScope s_law_k39, [], []⟩
def fnL : List He.DefD := [dd_law_a_by, dd_law_bound, dd_law_a_frame_k08, dd_law_a_order, dd_law_measure, dd_law_place, dd_law_a_asking_k38, dd_law_a_draws, dd_law_a_names, dd_law_cell_at, dd_law_a_table, dd_law_turned, dd_column, dd_worth, dd_are_alike, dd_groups_of, dd_is_place, dd_at_place, dd_measured, dd_names_in, dd_need_frame, dd_need_names, dd_need_asking, dd_rank_of, dd_ordered, dd_parts_of, dd_piece_of, dd_placed, dd_first_from, dd_off, dd_far_worth, dd_worth_ends, dd_ends_of, dd_left_out, dd_window_at, dd_asked, dd_law_k39]
def faL : List He.Fa := [.glo "_law_a_by", .glo "_law_bound", .glo "_law_a_frame", .glo "_law_a_order", .glo "_law_measure", .glo "_law_place", .glo "_law_a_asking", .glo "_law_a_draws", .glo "_law_a_names", .glo "_law_cell_at", .glo "_law_a_table", .glo "_law_turned", .glo "column", .glo "worth", .glo "are_alike", .glo "groups_of", .glo "is_place", .glo "at_place", .glo "measured", .glo "names_in", .glo "need_frame", .glo "need_names", .glo "need_asking", .glo "rank_of", .glo "ordered", .glo "parts_of", .glo "piece_of", .glo "placed", .glo "first_from", .glo "off", .glo "far_worth", .glo "worth_ends", .glo "ends_of", .glo "left_out", .glo "window_at", .glo "asked", .glo "law", .free "all", .free "divmod", .free "enumerate", .free "int", .free "len", .free "list", .free "max", .free "min", .free "range", .free "reversed", .free "sorted", .free "sum", .free "tuple", .glo "NoFrame", .exc "NoFrame", .glo "NoName", .exc "NoName"]
abbrev R : PySem.W.OpenRow := PySem.W.OpenLaw.row PySem.Challenge.rw_sashtable_k39_whole_parts_alone
def tuL : List (Str × List Str) := [("PLACES", ["number", "rank", "dense", "back", "on", "pieces"])]
abbrev hk : PySem.W.Hook := hookT 4 faL fnL tuL true false
def ob (s : PySem.W.SharedT) : AlT := obsT 4 faL fnL tuL true false (HandSHeadRun.getT s)
theorem ob_eq (s : PySem.W.SharedT) : ob s = hk.obs s.abs := obsT_eq (HandSHeadRun.getT_eq s)
def loose0 : List Str := ["SashError", "NoName", "NoFrame", "column", "need_names", "worth", "parts_of", "rank_of", "ordered", "are_alike", "need_frame", "groups_of", "off", "first_from", "far_worth", "worth_ends"]
def loose1 : List Str := ["ends_of", "left_out", "window_at", "PLACES", "is_place", "names_in", "need_asking", "at_place", "measured", "piece_of", "placed", "asked", "_law_cell_at", "_law_a_draws", "_law_a_names", "_law_a_table"]
def loose2 : List Str := ["_law_a_by", "_law_a_order", "_law_bound", "_law_a_frame", "_law_measure", "_law_place", "_law_a_asking", "_law_turned"]
def loose : List Str := loose0 ++ loose1 ++ loose2
theorem run (w : World) : HandSHeadRun.RunEq R (PySem.W.view R.prog [45]) hk ob 4000 loose w := by
  intro os
  kernel_rfl
theorem mkG {K : PySem.W.Frag} {h : Heap} {mg : Str → Option Value} (X : K.In h) (G : h.Ns mainGlobals mg) (c0 : SaysT faL fnL tuL true false K h) : ∃ g : Gm K mg, g.a_law_k39 = He.ga K "law" := by
  have c := c0.d
  obtain ⟨fd0, F0⟩ := c.def_ 0 (d := dd_law_a_by) rfl
  obtain ⟨fd1, F1⟩ := c.def_ 1 (d := dd_law_bound) rfl
  obtain ⟨fd2, F2⟩ := c.def_ 2 (d := dd_law_a_frame_k08) rfl
  obtain ⟨fd3, F3⟩ := c.def_ 3 (d := dd_law_a_order) rfl
  obtain ⟨fd4, F4⟩ := c.def_ 4 (d := dd_law_measure) rfl
  obtain ⟨fd5, F5⟩ := c.def_ 5 (d := dd_law_place) rfl
  obtain ⟨fd6, F6⟩ := c.def_ 6 (d := dd_law_a_asking_k38) rfl
  obtain ⟨fd7, F7⟩ := c.def_ 7 (d := dd_law_a_draws) rfl
  obtain ⟨fd8, F8⟩ := c.def_ 8 (d := dd_law_a_names) rfl
  obtain ⟨fd9, F9⟩ := c.def_ 9 (d := dd_law_cell_at) rfl
  obtain ⟨fd10, F10⟩ := c.def_ 10 (d := dd_law_a_table) rfl
  obtain ⟨fd11, F11⟩ := c.def_ 11 (d := dd_law_turned) rfl
  obtain ⟨fd12, F12⟩ := c.def_ 12 (d := dd_column) rfl
  obtain ⟨fd13, F13⟩ := c.def_ 13 (d := dd_worth) rfl
  obtain ⟨fd14, F14⟩ := c.def_ 14 (d := dd_are_alike) rfl
  obtain ⟨fd15, F15⟩ := c.def_ 15 (d := dd_groups_of) rfl
  obtain ⟨fd16, F16⟩ := c.def_ 16 (d := dd_is_place) rfl
  obtain ⟨fd17, F17⟩ := c.def_ 17 (d := dd_at_place) rfl
  obtain ⟨fd18, F18⟩ := c.def_ 18 (d := dd_measured) rfl
  obtain ⟨fd19, F19⟩ := c.def_ 19 (d := dd_names_in) rfl
  obtain ⟨fd20, F20⟩ := c.def_ 20 (d := dd_need_frame) rfl
  obtain ⟨fd21, F21⟩ := c.def_ 21 (d := dd_need_names) rfl
  obtain ⟨fd22, F22⟩ := c.def_ 22 (d := dd_need_asking) rfl
  obtain ⟨fd23, F23⟩ := c.def_ 23 (d := dd_rank_of) rfl
  obtain ⟨fd24, F24⟩ := c.def_ 24 (d := dd_ordered) rfl
  obtain ⟨fd25, F25⟩ := c.def_ 25 (d := dd_parts_of) rfl
  obtain ⟨fd26, F26⟩ := c.def_ 26 (d := dd_piece_of) rfl
  obtain ⟨fd27, F27⟩ := c.def_ 27 (d := dd_placed) rfl
  obtain ⟨fd28, F28⟩ := c.def_ 28 (d := dd_first_from) rfl
  obtain ⟨fd29, F29⟩ := c.def_ 29 (d := dd_off) rfl
  obtain ⟨fd30, F30⟩ := c.def_ 30 (d := dd_far_worth) rfl
  obtain ⟨fd31, F31⟩ := c.def_ 31 (d := dd_worth_ends) rfl
  obtain ⟨fd32, F32⟩ := c.def_ 32 (d := dd_ends_of) rfl
  obtain ⟨fd33, F33⟩ := c.def_ 33 (d := dd_left_out) rfl
  obtain ⟨fd34, F34⟩ := c.def_ 34 (d := dd_window_at) rfl
  obtain ⟨fd35, F35⟩ := c.def_ 35 (d := dd_asked) rfl
  obtain ⟨fd36, F36⟩ := c.def_ 36 (d := dd_law_k39) rfl
  exact ⟨{
    n_all := He.free_ok X G (c.fact 37 (f := .free "all") rfl),
    n_divmod := He.free_ok X G (c.fact 38 (f := .free "divmod") rfl),
    n_enumerate := He.free_ok X G (c.fact 39 (f := .free "enumerate") rfl),
    n_int := He.free_ok X G (c.fact 40 (f := .free "int") rfl),
    n_len := He.free_ok X G (c.fact 41 (f := .free "len") rfl),
    n_list := He.free_ok X G (c.fact 42 (f := .free "list") rfl),
    n_max := He.free_ok X G (c.fact 43 (f := .free "max") rfl),
    n_min := He.free_ok X G (c.fact 44 (f := .free "min") rfl),
    n_range := He.free_ok X G (c.fact 45 (f := .free "range") rfl),
    n_reversed := He.free_ok X G (c.fact 46 (f := .free "reversed") rfl),
    n_sorted := He.free_ok X G (c.fact 47 (f := .free "sorted") rfl),
    n_sum := He.free_ok X G (c.fact 48 (f := .free "sum") rfl),
    n_tuple := He.free_ok X G (c.fact 49 (f := .free "tuple") rfl),
    t_PLACES := tupG_ok X G (c0.t ("PLACES", ["number", "rank", "dense", "back", "on", "pieces"]) (by simp [tuL])),
    c_NoFrame := _,
    x_NoFrame := xc_of X G (c.fact 50 (f := .glo "NoFrame") rfl) (c.fact 51 (f := .exc "NoFrame") rfl),
    c_NoName := _,
    x_NoName := xc_of X G (c.fact 52 (f := .glo "NoName") rfl) (c.fact 53 (f := .exc "NoName") rfl),
    a_law_a_by := _,
    d_law_a_by := fd0,
    m_law_a_by := He.glo_ok X G (c.fact 0 (f := .glo "_law_a_by") rfl),
    F_law_a_by := F0,
    b_law_a_by := FunD.bindsN F0 fun _ _ _ _ _ _ us hl => match us, hl with | [_, _], _ => rfl,
    a_law_bound := _,
    d_law_bound := fd1,
    m_law_bound := He.glo_ok X G (c.fact 1 (f := .glo "_law_bound") rfl),
    F_law_bound := F1,
    b_law_bound := FunD.bindsN F1 fun _ _ _ _ _ _ us hl => match us, hl with | [_, _, _], _ => rfl,
    a_law_a_frame_k08 := _,
    d_law_a_frame_k08 := fd2,
    m_law_a_frame_k08 := He.glo_ok X G (c.fact 2 (f := .glo "_law_a_frame") rfl),
    F_law_a_frame_k08 := F2,
    b_law_a_frame_k08 := FunD.bindsN F2 fun _ _ _ _ _ _ us hl => match us, hl with | [_, _], _ => rfl,
    a_law_a_order := _,
    d_law_a_order := fd3,
    m_law_a_order := He.glo_ok X G (c.fact 3 (f := .glo "_law_a_order") rfl),
    F_law_a_order := F3,
    b_law_a_order := FunD.bindsN F3 fun _ _ _ _ _ _ us hl => match us, hl with | [_, _], _ => rfl,
    a_law_measure := _,
    d_law_measure := fd4,
    m_law_measure := He.glo_ok X G (c.fact 4 (f := .glo "_law_measure") rfl),
    F_law_measure := F4,
    b_law_measure := FunD.bindsN F4 fun _ _ _ _ _ _ us hl => match us, hl with | [_, _], _ => rfl,
    a_law_place := _,
    d_law_place := fd5,
    m_law_place := He.glo_ok X G (c.fact 5 (f := .glo "_law_place") rfl),
    F_law_place := F5,
    b_law_place := FunD.bindsN F5 fun _ _ _ _ _ _ us hl => match us, hl with | [_, _], _ => rfl,
    a_law_a_asking_k38 := _,
    d_law_a_asking_k38 := fd6,
    m_law_a_asking_k38 := He.glo_ok X G (c.fact 6 (f := .glo "_law_a_asking") rfl),
    F_law_a_asking_k38 := F6,
    b_law_a_asking_k38 := FunD.bindsN F6 fun _ _ _ _ _ _ us hl => match us, hl with | [_, _], _ => rfl,
    a_law_a_draws := _,
    d_law_a_draws := fd7,
    m_law_a_draws := He.glo_ok X G (c.fact 7 (f := .glo "_law_a_draws") rfl),
    F_law_a_draws := F7,
    b_law_a_draws := FunD.bindsN F7 fun _ _ _ _ _ _ us hl => match us, hl with | [_, _, _], _ => rfl,
    a_law_a_names := _,
    d_law_a_names := fd8,
    m_law_a_names := He.glo_ok X G (c.fact 8 (f := .glo "_law_a_names") rfl),
    F_law_a_names := F8,
    b_law_a_names := FunD.bindsN F8 fun _ _ _ _ _ _ us hl => match us, hl with | [_, _], _ => rfl,
    a_law_cell_at := _,
    d_law_cell_at := fd9,
    m_law_cell_at := He.glo_ok X G (c.fact 9 (f := .glo "_law_cell_at") rfl),
    F_law_cell_at := F9,
    b_law_cell_at := FunD.bindsN F9 fun _ _ _ _ _ _ us hl => match us, hl with | [_, _], _ => rfl,
    a_law_a_table := _,
    d_law_a_table := fd10,
    m_law_a_table := He.glo_ok X G (c.fact 10 (f := .glo "_law_a_table") rfl),
    F_law_a_table := F10,
    b_law_a_table := FunD.bindsN F10 fun _ _ _ _ _ _ us hl => match us, hl with | [_, _, _], _ => rfl,
    a_law_turned := _,
    d_law_turned := fd11,
    m_law_turned := He.glo_ok X G (c.fact 11 (f := .glo "_law_turned") rfl),
    F_law_turned := F11,
    b_law_turned := FunD.bindsN F11 fun _ _ _ _ _ _ us hl => match us, hl with | [_, _], _ => rfl,
    a_column := _,
    d_column := fd12,
    m_column := He.glo_ok X G (c.fact 12 (f := .glo "column") rfl),
    F_column := F12,
    b_column := FunD.bindsN F12 fun _ _ _ _ _ _ us hl => match us, hl with | [_, _], _ => rfl,
    a_worth := _,
    d_worth := fd13,
    m_worth := He.glo_ok X G (c.fact 13 (f := .glo "worth") rfl),
    F_worth := F13,
    b_worth := FunD.bindsN F13 fun _ _ _ _ _ _ us hl => match us, hl with | [_, _, _], _ => rfl,
    a_are_alike := _,
    d_are_alike := fd14,
    m_are_alike := He.glo_ok X G (c.fact 14 (f := .glo "are_alike") rfl),
    F_are_alike := F14,
    b_are_alike := FunD.bindsN F14 fun _ _ _ _ _ _ us hl => match us, hl with | [_, _, _, _], _ => rfl,
    a_groups_of := _,
    d_groups_of := fd15,
    m_groups_of := He.glo_ok X G (c.fact 15 (f := .glo "groups_of") rfl),
    F_groups_of := F15,
    b_groups_of := FunD.bindsN F15 fun _ _ _ _ _ _ us hl => match us, hl with | [_, _, _], _ => rfl,
    a_is_place := _,
    d_is_place := fd16,
    m_is_place := He.glo_ok X G (c.fact 16 (f := .glo "is_place") rfl),
    F_is_place := F16,
    b_is_place := FunD.bindsN F16 fun _ _ _ _ _ _ us hl => match us, hl with | [_], _ => rfl,
    a_at_place := _,
    d_at_place := fd17,
    m_at_place := He.glo_ok X G (c.fact 17 (f := .glo "at_place") rfl),
    F_at_place := F17,
    b_at_place := FunD.bindsN F17 fun _ _ _ _ _ _ us hl => match us, hl with | [_, _], _ => rfl,
    a_measured := _,
    d_measured := fd18,
    m_measured := He.glo_ok X G (c.fact 18 (f := .glo "measured") rfl),
    F_measured := F18,
    b_measured := FunD.bindsN F18 fun _ _ _ _ _ _ us hl => match us, hl with | [_, _, _], _ => rfl,
    a_names_in := _,
    d_names_in := fd19,
    m_names_in := He.glo_ok X G (c.fact 19 (f := .glo "names_in") rfl),
    F_names_in := F19,
    b_names_in := FunD.bindsN F19 fun _ _ _ _ _ _ us hl => match us, hl with | [_], _ => rfl,
    a_need_frame := _,
    d_need_frame := fd20,
    m_need_frame := He.glo_ok X G (c.fact 20 (f := .glo "need_frame") rfl),
    F_need_frame := F20,
    b_need_frame := FunD.bindsN F20 fun _ _ _ _ _ _ us hl => match us, hl with | [_, _], _ => rfl,
    a_need_names := _,
    d_need_names := fd21,
    m_need_names := He.glo_ok X G (c.fact 21 (f := .glo "need_names") rfl),
    F_need_names := F21,
    b_need_names := FunD.bindsN F21 fun _ _ _ _ _ _ us hl => match us, hl with | [_, _], _ => rfl,
    a_need_asking := _,
    d_need_asking := fd22,
    m_need_asking := He.glo_ok X G (c.fact 22 (f := .glo "need_asking") rfl),
    F_need_asking := F22,
    b_need_asking := FunD.bindsN F22 fun _ _ _ _ _ _ us hl => match us, hl with | [_, _], _ => rfl,
    a_rank_of := _,
    d_rank_of := fd23,
    m_rank_of := He.glo_ok X G (c.fact 23 (f := .glo "rank_of") rfl),
    F_rank_of := F23,
    b_rank_of := FunD.bindsN F23 fun _ _ _ _ _ _ us hl => match us, hl with | [_], _ => rfl,
    a_ordered := _,
    d_ordered := fd24,
    m_ordered := He.glo_ok X G (c.fact 24 (f := .glo "ordered") rfl),
    F_ordered := F24,
    b_ordered := FunD.bindsN F24 fun _ _ _ _ _ _ us hl => match us, hl with | [_, _, _], _ => rfl,
    a_parts_of := _,
    d_parts_of := fd25,
    m_parts_of := He.glo_ok X G (c.fact 25 (f := .glo "parts_of") rfl),
    F_parts_of := F25,
    b_parts_of := FunD.bindsN F25 fun _ _ _ _ _ _ us hl => match us, hl with | [_, _], _ => rfl,
    a_piece_of := _,
    d_piece_of := fd26,
    m_piece_of := He.glo_ok X G (c.fact 26 (f := .glo "piece_of") rfl),
    F_piece_of := F26,
    b_piece_of := FunD.bindsN F26 fun _ _ _ _ _ _ us hl => match us, hl with | [_, _, _], _ => rfl,
    a_placed := _,
    d_placed := fd27,
    m_placed := He.glo_ok X G (c.fact 27 (f := .glo "placed") rfl),
    F_placed := F27,
    b_placed := FunD.bindsN F27 fun _ _ _ _ _ _ us hl => match us, hl with | [_, _, _, _, _], _ => rfl,
    a_first_from := _,
    d_first_from := fd28,
    m_first_from := He.glo_ok X G (c.fact 28 (f := .glo "first_from") rfl),
    F_first_from := F28,
    b_first_from := FunD.bindsN F28 fun _ _ _ _ _ _ us hl => match us, hl with | [_, _], _ => rfl,
    a_off := _,
    d_off := fd29,
    m_off := He.glo_ok X G (c.fact 29 (f := .glo "off") rfl),
    F_off := F29,
    b_off := FunD.bindsN F29 fun _ _ _ _ _ _ us hl => match us, hl with | [_], _ => rfl,
    a_far_worth := _,
    d_far_worth := fd30,
    m_far_worth := He.glo_ok X G (c.fact 30 (f := .glo "far_worth") rfl),
    F_far_worth := F30,
    b_far_worth := FunD.bindsN F30 fun _ _ _ _ _ _ us hl => match us, hl with | [_, _, _], _ => rfl,
    a_worth_ends := _,
    d_worth_ends := fd31,
    m_worth_ends := He.glo_ok X G (c.fact 31 (f := .glo "worth_ends") rfl),
    F_worth_ends := F31,
    b_worth_ends := FunD.bindsN F31 fun _ _ _ _ _ _ us hl => match us, hl with | [_, _, _, _, _], _ => rfl,
    a_ends_of := _,
    d_ends_of := fd32,
    m_ends_of := He.glo_ok X G (c.fact 32 (f := .glo "ends_of") rfl),
    F_ends_of := F32,
    b_ends_of := FunD.bindsN F32 fun _ _ _ _ _ _ us hl => match us, hl with | [_, _, _, _, _], _ => rfl,
    a_left_out := _,
    d_left_out := fd33,
    m_left_out := He.glo_ok X G (c.fact 33 (f := .glo "left_out") rfl),
    F_left_out := F33,
    b_left_out := FunD.bindsN F33 fun _ _ _ _ _ _ us hl => match us, hl with | [_, _, _, _, _], _ => rfl,
    a_window_at := _,
    d_window_at := fd34,
    m_window_at := He.glo_ok X G (c.fact 34 (f := .glo "window_at") rfl),
    F_window_at := F34,
    b_window_at := FunD.bindsN F34 fun _ _ _ _ _ _ us hl => match us, hl with | [_, _, _, _, _], _ => rfl,
    a_asked := _,
    d_asked := fd35,
    m_asked := He.glo_ok X G (c.fact 35 (f := .glo "asked") rfl),
    F_asked := F35,
    b_asked := FunD.bindsN F35 fun _ _ _ _ _ _ us hl => match us, hl with | [_, _], _ => rfl,
    a_law_k39 := _,
    d_law_k39 := fd36,
    m_law_k39 := He.glo_ok X G (c.fact 36 (f := .glo "law") rfl),
    F_law_k39 := F36,
    b_law_k39 := FunD.bindsN F36 fun _ _ _ _ _ _ us hl => match us, hl with | [_], _ => rfl }, rfl⟩
end Law

set_option maxHeartbeats 0
namespace Law
open PySem PySem.Spec L2 DL Com
theorem facts {w : World} {K : PySem.W.Frag} {h : Heap} {mg : Str → Option Value} {f : Addr} (X : K.In h) (G : h.Ns mainGlobals mg) (hfa : mg ("law" : Str) = some (.ref f)) (c : SaysT faL fnL tuL true false K h) :
    ∃ fd : FuncData, (∀ (s : Shared) (v : Value), BindsTo s fd ⟨[v], []⟩ [("script", v)]) ∧ ∀ base : Heap, TabT K mg base → FnOk prog w K mg base (CXA prog) 8 f fd ["script"] (spD K mg 1 g_law_k39) := by
  obtain ⟨g, eg⟩ := mkG X G c
  have e := hfa.symm.trans g.m_law_k39
  cases e
  have b := FunD.bindsA (ps := ["script"]) g.F_law_k39 fun _ _ _ _ _ _ us hl => match us, hl with | [_], _ => rfl
  exact ⟨g.d_law_k39, fun s v => b s [v] rfl, fun base T => fnCXA (ok_law_k39 g T)⟩
end Law
open PySem PySem.W PySem.Calls PyProof.Rows
theorem PySem.Challenge.cw_sashtable_k39_whole_parts_alone_holds : PySem.Challenge.rw_sashtable_k39_whole_parts_alone.Holds := by
  w_on; o_law
  refine HandSHeadRun.head_any (r := OpenLaw.row PySem.Challenge.rw_sashtable_k39_whole_parts_alone) (q := view (OpenLaw.row PySem.Challenge.rw_sashtable_k39_whole_parts_alone).prog [45]) (H := Law.hk) (ob := Law.ob) (M := 4000) (loose := Law.loose) (d := HandSHeadRun.topDef (OpenLaw.row PySem.Challenge.rw_sashtable_k39_whole_parts_alone).prog 45) (kwd := []) Law.ob_eq
    (by kernel_rfl) (fun s => by kernel_rfl) Law.run (by kernel_rfl) (by kernel_rfl) (by kernel_rfl) (by rfl) (by first | assumption | decide +kernel) (by decide +kernel) ⟨rfl, rfl, rfl, rfl, rfl, by decide +kernel⟩ ?hw ?hc
  case hw => w_witness2
  case hc =>
    refine DL.walk_lam (l := PySem.Challenge.rw_sashtable_k39_whole_parts_alone) (n := 63) (k := 8) (x := "script") (CX := DL.CXA Law.prog) rfl (by decide) (by kernel_rfl) ⟨rfl, by decide, by decide⟩ ?F (fun _ _ _ _ z => DL.noCXA z)
    intro w mg fa h Y G hmg0
    obtain ⟨K, KX, c⟩ := Y
    have hmg : mg ("law" : PySem.Str) = some (.ref fa) := by
      have e : (HandSHeadRun.topDef (OpenLaw.row PySem.Challenge.rw_sashtable_k39_whole_parts_alone).prog 45).name = ("law" : PySem.Str) := by kernel_rfl
      rw [← e]
      exact hmg0
    obtain ⟨fd, hb, hF⟩ := Law.facts (w := w) KX G hmg c
    exact ⟨K, KX, DL.law_at KX G (c.l rfl) hb (fun ns hl => Com.law_true_k39 ns hl) hF⟩
