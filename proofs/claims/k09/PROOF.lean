import PyProof.Rows.All
import Wide.All
import OpenK.AllK
import Wide.FinOn
import HandS.ForMost
import HandS.IsInst
import HandS.Walk
import HandS.Zip
import HandS.TupAny
import HandS.TupMul
import HandS.Flow
import HandS.Lambda
import KE.GoesMore
import HandS.Style
import HandS.Set
import HandS.Strs
import HandS.Sort
import HandS.SetFor
import HandS.More
import HandS.Conv
import PyProof.Rows.SortStr
import HandS.SortOrd
import HandS.SortRule
import HandS.DictTup
import KE.KSortTupAny
import KE.KDictPairs
import PyProof.TupleOfSeq
import HandS.Deep
import HandS.ListItems
import HandS.DictComp
import HandS.ForExc
import HandS.ExcIs
import HandS.EndTab
import KE.KNest
import HandS.TryOnly
import PyProof.ReprRoads
import PyProof.ReprLen
import HandS.RaiseMore
import HandS.Text
import PySem.Challenge.RW_awaybook_k09_lists_anywhere
set_option Elab.async false
set_option linter.all false
set_option maxRecDepth 100000
set_option maxHeartbeats 4000000
/-! DL0: tuples that are known to bear no dict of their own, as they are made. -/
namespace AB
open PySem L2
abbrev Fg := PySem.W.Frag
/-- a tuple at a, plain -/
def PlT (K : Fg) (H : Hp) (a : Addr) (xs : List V) : Prop :=
  (∃ o, H a = some (.frz o (.tup xs)) ∧ o.dict = none) ∨
    ∃ (o : Obj) (its : Array Value) (n : Nat), K.lookup a = some o ∧ o.cls = .type "tuple" ∧ o.dict = none ∧ o.data = .seq its n ∧ its.size ≤ sizeLine ∧ Vals xs its.toList
theorem PlT.sq {K : Fg} {H : Hp} {a : Addr} {xs : List V} (h : PlT K H a xs) : SqT K H a xs := by
  rcases h with ⟨o, h, _⟩ | ⟨o, its, n, h1, h2, _, h3, h4, h5⟩
  · exact .inl (.inr ⟨o, h⟩)
  · exact .inr ⟨o, its, n, h1, h2, h3, h4, h5⟩
theorem PlT.of {K : Fg} {H : Hp} {a : Addr} {xs : List V} {o : Obj} (h : H a = some (.frz o (.tup xs))) (d : o.dict = none) : PlT K H a xs := .inl ⟨o, h, d⟩
theorem PlT.mono {K : Fg} {H H' : Hp} {a : Addr} {xs : List V} (e : Same H H') (h : PlT K H a xs) : PlT K H' a xs := by
  rcases h with ⟨o, h, d⟩ | h
  · exact .inl ⟨o, e _ _ h, d⟩
  · exact .inr h
theorem PlT.plain {X : Cx} {pins : List (Addr × Obj)} {σ : L2.St} {H : Hp} {s : Shared} {a : Addr} {xs : List V} (I : Inv X pins σ H s) (h : PlT X.K H a xs) : ∃ (its : List Value) (o : Obj) (n : Nat), Vals xs its ∧ s.heap.get? a = some o ∧ o.cls = .type "tuple" ∧ o.dict = none ∧ o.data = .seq its.toArray n ∧ xs.length ≤ sizeLine := by
  rcases h with ⟨o, h, d⟩ | ⟨o, its, n, h1, h2, h2', h3, h4, h5⟩
  · obtain ⟨e, z, its, r, o', e', c, n, q⟩ := I.hok a _ h
    rw [e] at e'; cases e'
    exact ⟨its, o, n, r, e, c, d, q, z⟩
  · have := h5.length
    refine ⟨its.toList, o, n, h5, I.kIn a o h1, h2, h2', by simpa using h3, ?_⟩
    rw [this, Array.length_toList]; exact h4
section
variable {X : Cx} {e : Expr} {es : List Expr} {t : TA} {pos : Pos} {pins : List (Addr × Obj)} {σ : L2.St} {H : Hp} {s : Shared}
/-- a new tuple is laid -/
theorem laidT {xs : List V} {us : List Value} {h' : Heap} {Q : VK} (I : Inv X pins σ H { s with heap := h' }) (r : Vals xs us) (z : xs.length ≤ sizeLine) (q : ∀ p o, H p = none → o.dict = none → Q (.ref p) (upd H p (.frz o (.tup xs)))) :
    EP X pins σ Q (.ref h'.objs.size) { s with heap := h'.push { cls := .type "tuple", data := .seq us.toArray } } := by
  refine ⟨.ref h'.objs.size, _, I.laid (s := { s with heap := h' }) (t' := s.toks) (a := h'.objs.size) (o := .frz { cls := .type "tuple", data := .seq us.toArray } (.tup xs)) (fun b o e => Heap.get?_push_of_some _ e) (Nat.le_refl _) ?_, rfl, q _ _ (I.hok.fresh (Nat.le_refl _)) rfl⟩
  exact ⟨Heap.get?_push_size _ rfl, z, us, r, PyProof.Rows.IsTup.new _ _⟩
def tTupF (t : TA) : TE := fun σ H Q => t σ H fun xs H1 => xs.length ≤ sizeLine ∧ ∀ p o, H1 p = none → o.dict = none → Q (.ref p) (upd H1 p (.frz o (.tup xs)))
theorem pe_tupF {x1} (h : PA X es t) : PE X (.Tuple es x1 pos) (tTupF t) := by
  refine ⟨fun pins s σ H Q I hq => ?_⟩
  refine wpAny_Tuple_spliced (thn (h.run pos pins s σ H _ I hq) fun us s1 ⟨xs, H1, I1, r, z, q⟩ => ⟨by rw [← r.length]; exact z, ?_⟩)
  exact laidT (s := s1) (h' := s1.heap) I1 r z q
def rCatF (K : Fg) : R2 := fun x y H Q => ∃ a b xs ys, x = .ref a ∧ y = .ref b ∧ SqT K H a xs ∧ SqT K H b ys ∧ xs.length + ys.length ≤ sizeLine ∧
  (xs = [] → Q (.ref b) H) ∧ (xs ≠ [] → ys = [] → Q (.ref a) H) ∧ (xs ≠ [] → ys ≠ [] → ∀ p o, H p = none → o.dict = none → Q (.ref p) (upd H p (.frz o (.tup (xs ++ ys)))))
theorem op_catF : OpR X (binaryOp .Add) (rCatF X.K) := by
  intro pins s σ H x y v u Q I rx ry h
  obtain ⟨a, b, xs, ys, rfl, rfl, ha, hb, hz, q0, q1, q2⟩ := h
  cases rx
  cases ry
  obtain ⟨its, r1, p1, _⟩ := I.tuple ha
  obtain ⟨its2, r2, p2, _⟩ := I.tuple hb
  by_cases hx : xs = []
  · subst hx
    cases r1
    exact cat_tup0 p1 p2 ⟨.ref b, H, I, rfl, q0 rfl⟩
  · refine HT.cat_tup p1 p2 (fun z => hx (r1.nil_iff.mp z)) (fun z => ⟨.ref a, H, I, rfl, q1 hx (r2.nil_iff.mp z)⟩) (fun z => ?_) (by rw [← r1.length, ← r2.length]; exact hz)
    exact laidT (s := s) (h' := s.heap) I (r1.append r2) (by rw [List.length_append]; exact hz) (q2 hx fun w => z (r2.nil_iff.mpr w))
def rSlF (K : Fg) : V → Option Int → Option Int → Hp → VK → Prop := fun x lo hi H Q => ∃ a xs, x = .ref a ∧ SqT K H a xs ∧
  (HT.sIx xs.length 0 lo = 0 ∧ HT.sIx xs.length xs.length hi = xs.length → Q (.ref a) H) ∧ (¬ (HT.sIx xs.length 0 lo = 0 ∧ HT.sIx xs.length xs.length hi = xs.length) → ∀ p o, H p = none → o.dict = none → Q (.ref p) (upd H p (.frz o (.tup (cutV xs lo hi)))))
theorem sl_tupF : L2.SlR X (rSlF X.K) := by
  intro pins s σ H x v vl vu lo hi sl Q I rx hs pl pu h
  obtain ⟨a, xs, rfl, hx, q1, q2⟩ := h
  cases rx
  obtain ⟨its, r, ht, hz⟩ := I.tuple hx
  have hlen : its.toArray.size = xs.length := by rw [List.size_toArray]; exact r.length.symm
  refine ⟨"tuple", _, PyProof.Rows.slot_tuple_getitem.lookup, ht.typeIs, ?_⟩
  by_cases hw : HT.sIx xs.length 0 lo = 0 ∧ HT.sIx xs.length xs.length hi = xs.length
  · exact getItem_tuple_whole ht hs pl pu (by rw [hlen]; exact hw) ⟨.ref a, H, I, rfl, q1 hw⟩
  · refine HT.getItem_tuple_cut ht hs pl pu (by rw [hlen]; exact hw) ?_ (by rw [hlen]; exact hz)
    rw [hlen]
    exact laidT (s := s) (h' := s.heap) I ((r.drop (HT.sIx xs.length 0 lo)).take (HT.sIx xs.length xs.length hi - HT.sIx xs.length 0 lo)) (Nat.le_trans (cutV_length xs lo hi) hz) (q2 hw)
theorem call_tupleF : CallR X (.type "tuple") (fun xs H Q => ∃ p ys, xs = [.ref p] ∧ ((SqL X.K H p ys ∧ ∀ l o, H l = none → o.dict = none → Q (.ref l) (upd H l (.frz o (.tup ys)))) ∨ (SqT X.K H p ys ∧ Q (.ref p) H))) := by
  intro pins s σ H xs us Q I r h
  obtain ⟨p, ys, rfl, h⟩ := h
  obtain ⟨u, rfl, rx⟩ := vals1 r
  cases rx
  rcases h with ⟨hq, q⟩ | ⟨hq, q⟩
  · obtain ⟨its, r', pl, hz⟩ := I.list hq
    have hlen := r'.length
    refine call_tuple_list pl.isList (fun h' kp => ?_) (by simp only [List.size_toArray] <;> omega)
    exact laidT (s := s) (h' := h') (I.kept (t' := s.toks) kp) r' hz q
  · obtain ⟨its, r', pl, hz⟩ := I.tuple hq
    exact call_tuple_same pl ⟨.ref p, H, I, rfl, q⟩
end
end AB
/-! DL: readings by DATA. A value is known by the data (PyData) that it stands for; H the heap, Hs the part of it in which shared data lies. -/
namespace AB
open PySem L2
abbrev D := PyData

/-! ### heaps that grow -/
structure Grow (Hs H Hs' H' : Hp) : Prop where
  h : Same H H'
  s : Same Hs Hs'
  i : Same Hs' H'
  n : ∀ a, Hs a = none → H a ≠ none → Hs' a = none
theorem Grow.refl {Hs H : Hp} (i : Same Hs H) : Grow Hs H Hs H := ⟨Same.refl _, Same.refl _, i, fun _ h _ => h⟩
theorem Grow.trans {Hs H Hs1 H1 Hs2 H2 : Hp} (a : Grow Hs H Hs1 H1) (b : Grow Hs1 H1 Hs2 H2) : Grow Hs H Hs2 H2 :=
  ⟨a.h.trans b.h, a.s.trans b.s, b.i, fun x h1 h2 => b.n x (a.n x h1 h2) fun e => by
    cases q : H x with
    | none => exact h2 q
    | some o => rw [a.h x o q] at e; cases e⟩
theorem same_upd {H : Hp} {p : Addr} {o : HO} (h : H p = none) : Same H (upd H p o) := fun b x e => by
  rw [upd_ne (ne_of_none e h)]; exact e
theorem _root_.L2.Same.none {H H' : Hp} (e : Same H H') {a : Addr} (h : H' a = none) : H a = none := e.free h
theorem Grow.new {Hs H : Hp} {p : Addr} {o : HO} (i : Same Hs H) (h : H p = none) : Grow Hs H (upd Hs p o) (upd H p o) :=
  ⟨same_upd h, same_upd (i.free h), fun b x e => by
    by_cases hb : b = p
    · subst hb; rw [upd_same] at e ⊢; exact e
    · rw [upd_ne hb] at e ⊢; exact i b x e, fun a h1 h2 => by
    have hb : a ≠ p := fun z => h2 (z ▸ h)
    rw [upd_ne hb]; exact h1⟩
/-- a new object that is not shared -/
theorem Grow.newH {Hs H : Hp} {p : Addr} {o : HO} (i : Same Hs H) (h : H p = none) : Grow Hs H Hs (upd H p o) :=
  ⟨same_upd h, Same.refl _, i.trans (same_upd h), fun _ h1 _ => h1⟩

/-! ### data -/
/-- a dict that changes no more -/
abbrev dDict (ps : List (Str × Int)) : D := .dict (ps.map fun p => (.str p.1, .int p.2))
def kvI (ps : List (Str × Int)) : List (Key × V) := ps.map fun p => (Sum.inr p.1, V.int p.2)
mutual
/-- a value that stands for data; tuples plain -/
inductive Dq (K : Fg) (H : Hp) : V → PyData → Prop
  | non : Dq K H .non .none
  | bl (b : Bool) : Dq K H (.bl b) (.bool b)
  | int (i : Int) : Dq K H (.int i) (.int i)
  | str (x : Str) : Dq K H (.str x) (.str x)
  | lst {a : Addr} {xs : List V} {ds : List PyData} : SqL K H a xs → DqAll K H xs ds → Dq K H (.ref a) (.list ds)
  | tup {a : Addr} {xs : List V} {ds : List PyData} : PlT K H a xs → DqAll K H xs ds → Dq K H (.ref a) (.tuple ds)
  | dct {a : Addr} {ps : List (Str × Int)} : H a = some (.dK (kvI ps)) → Dq K H (.ref a) (.dict (ps.map fun p => (.str p.1, .int p.2)))
inductive DqAll (K : Fg) (H : Hp) : List V → List PyData → Prop
  | nil : DqAll K H [] []
  | cons {v : V} {vs : List V} {d : PyData} {ds : List PyData} : Dq K H v d → DqAll K H vs ds → DqAll K H (v :: vs) (d :: ds)
end
mutual
theorem Dq.dp {K : Fg} {H : Hp} : ∀ {v : V} {d : D}, Dq K H v d → d.canLay0 = true → Dp K H v d
  | _, _, .non, _ => .non
  | _, _, .bl b, _ => .bl b
  | _, _, .int i, _ => .int i
  | _, _, .str x, _ => .str x
  | _, _, .lst h a, c => .lst h (a.dp (by simpa [PyData.canLay0] using c))
  | _, _, .tup h a, c => .tup h.sq (a.dp (by simpa [PyData.canLay0] using c))
  | _, _, .dct h, c => by simp [PyData.canLay0] at c
theorem DqAll.dp {K : Fg} {H : Hp} : ∀ {vs : List V} {ds : List D}, DqAll K H vs ds → PyData.canLayAll0 ds = true → DpAll K H vs ds
  | _, _, .nil, _ => .nil
  | _, _, .cons a b, c => by
    rw [PyData.canLayAll0, Bool.and_eq_true] at c
    exact .cons (a.dp c.1) (b.dp c.2)
end
theorem sqT_mono {K : Fg} {H H' : Hp} {a : Addr} {xs : List V} (e : Same H H') (h : SqT K H a xs) : SqT K H' a xs := by
  rcases h with (h | ⟨o, h⟩) | h
  · exact .inl (.inl (e _ _ h))
  · exact .inl (.inr ⟨o, e _ _ h⟩)
  · exact .inr h
mutual
theorem dp_mono {K : Fg} {H H' : Hp} (e : Same H H') : ∀ {v : V} {d : D}, Dq K H v d → Dq K H' v d
  | _, _, .non => .non
  | _, _, .bl b => .bl b
  | _, _, .int i => .int i
  | _, _, .str x => .str x
  | _, _, .lst h a => .lst (e.seq h) (dpAll_mono e a)
  | _, _, .tup h a => .tup (h.mono e) (dpAll_mono e a)
  | _, _, .dct h => .dct (e _ _ h)
theorem dpAll_mono {K : Fg} {H H' : Hp} (e : Same H H') : ∀ {vs : List V} {ds : List D}, DqAll K H vs ds → DqAll K H' vs ds
  | _, _, .nil => .nil
  | _, _, .cons a b => .cons (dp_mono e a) (dpAll_mono e b)
end
section
variable {K : Fg} {H H' : Hp} {v : V} {vs ws : List V} {d : D} {ds es : List D}
theorem DqAll.len (h : DqAll K H vs ds) : vs.length = ds.length := by
  induction vs generalizing ds with
  | nil => cases h; rfl
  | cons v vs ih => cases h with | cons a b => rw [List.length_cons, List.length_cons, ih b]
theorem DqAll.get (h : DqAll K H vs ds) {i : Nat} {d : D} (e : ds[i]? = some d) : ∃ v, vs[i]? = some v ∧ Dq K H v d := by
  induction vs generalizing ds i with
  | nil => cases h; cases e
  | cons v vs ih =>
    cases h with
    | cons a b =>
      cases i with
      | zero => cases e; exact ⟨v, rfl, a⟩
      | succ i => exact ih b (by simpa using e)
theorem DqAll.getV (h : DqAll K H vs ds) {i : Nat} {v : V} (e : vs[i]? = some v) : ∃ d, ds[i]? = some d ∧ Dq K H v d := by
  induction vs generalizing ds i with
  | nil => cases e
  | cons v vs ih =>
    cases h with
    | cons a b =>
      cases i with
      | zero => cases e; exact ⟨_, rfl, a⟩
      | succ i => exact ih b (by simpa using e)
theorem DqAll.app (h : DqAll K H vs ds) (h' : DqAll K H ws es) : DqAll K H (vs ++ ws) (ds ++ es) := by
  induction vs generalizing ds with
  | nil => cases h; exact h'
  | cons v vs ih => cases h with | cons a b => exact .cons a (ih b)
theorem DqAll.drop (h : DqAll K H vs ds) (n : Nat) : DqAll K H (vs.drop n) (ds.drop n) := by
  induction n generalizing vs ds with
  | zero => exact h
  | succ n ih => cases h with
    | nil => exact .nil
    | cons a b => exact ih b
theorem DqAll.take (h : DqAll K H vs ds) (n : Nat) : DqAll K H (vs.take n) (ds.take n) := by
  induction n generalizing vs ds with
  | zero => exact .nil
  | succ n ih => cases h with
    | nil => exact .nil
    | cons a b => exact .cons a (ih b)
theorem DqAll.rev (h : DqAll K H vs ds) : DqAll K H vs.reverse ds.reverse := by
  induction vs generalizing ds with
  | nil => cases h; exact .nil
  | cons v vs ih => cases h with
    | cons a b => rw [List.reverse_cons, List.reverse_cons]; exact (ih b).app (.cons a .nil)
theorem dp_int {v : V} {i : Int} (h : Dq K H v (.int i)) : v = .int i := by cases h; rfl
theorem dp_str {v : V} {x : Str} (h : Dq K H v (.str x)) : v = .str x := by cases h; rfl
theorem dp_bl {v : V} {b : Bool} (h : Dq K H v (.bool b)) : v = .bl b := by cases h; rfl
theorem dp_non {v : V} (h : Dq K H v .none) : v = .non := by cases h; rfl
theorem dp_tup {v : V} {ds : List D} (h : Dq K H v (.tuple ds)) : ∃ a vs, v = .ref a ∧ PlT K H a vs ∧ DqAll K H vs ds := by
  cases h with | tup h a => exact ⟨_, _, rfl, h, a⟩
theorem dp_lst {v : V} {ds : List D} (h : Dq K H v (.list ds)) : ∃ a vs, v = .ref a ∧ SqL K H a vs ∧ DqAll K H vs ds := by
  cases h with | lst h a => exact ⟨_, _, rfl, h, a⟩
theorem dict_inj : ∀ {ps qs : List (Str × Int)}, (ps.map fun p => ((.str p.1, .int p.2) : D × D)) = (qs.map fun p => (.str p.1, .int p.2)) → ps = qs
  | [], [], _ => rfl
  | [], _ :: _, h => by cases h
  | _ :: _, [], h => by cases h
  | p :: ps, q :: qs, h => by
    rw [List.map_cons, List.map_cons] at h
    injection h with h1 h2
    injection h1 with h3 h4
    injection h3 with h3
    injection h4 with h4
    rw [dict_inj h2, show p = q from Prod.ext h3 h4]
theorem dp_dct {v : V} {ps : List (Str × Int)} (h : Dq K H v (dDict ps)) : ∃ a, v = .ref a ∧ H a = some (.dK (kvI ps)) := by
  generalize e : dDict ps = d at h
  cases h with
  | dct h =>
    injection e with e
    rw [dict_inj e]
    exact ⟨_, rfl, h⟩
  | _ => cases e
theorem dpAll_ints : ∀ {ns : List Int} {vs : List V}, DqAll K H vs (ns.map .int) → vs = ns.map V.int
  | [], _, h => by cases h; rfl
  | n :: ns, _, h => by
    cases h with | cons a b => rw [dp_int a, dpAll_ints b]; rfl
theorem dpAll_strs : ∀ {ns : List Str} {vs : List V}, DqAll K H vs (ns.map .str) → vs = ns.map V.str
  | [], _, h => by cases h; rfl
  | n :: ns, _, h => by
    cases h with | cons a b => rw [dp_str a, dpAll_strs b]; rfl
theorem dpAll_bls : ∀ {ns : List Bool} {vs : List V}, DqAll K H vs (ns.map .bool) → vs = ns.map V.bl
  | [], _, h => by cases h; rfl
  | n :: ns, _, h => by
    cases h with | cons a b => rw [dp_bl a, dpAll_bls b]; rfl
theorem dpAll_strs' {ns : List Str} : DqAll K H (ns.map V.str) (ns.map .str) := by
  induction ns with
  | nil => exact .nil
  | cons n ns ih => exact .cons (.str n) ih
theorem dpAll_ints' {ns : List Int} : DqAll K H (ns.map V.int) (ns.map .int) := by
  induction ns with
  | nil => exact .nil
  | cons n ns ih => exact .cons (.int n) ih
end

/-! ### slots -/
/-- a slot: not known; data; a value as it is -/
inductive Sl where
  | u
  | d (x : D)
  | v (x : V)
abbrev Env := List Sl
def SlR (K : Fg) (Hs : Hp) : Option V → Sl → Prop
  | _, .u => True
  | o, .d x => ∃ v, o = some v ∧ Dq K Hs v x
  | o, .v x => o = some x
def EnvR (K : Fg) (Hs : Hp) (σ : L2.St) (ρ : Env) : Prop := σ.length = ρ.length ∧ ∀ (i : Nat) (o : Option V) (s : Sl), σ[i]? = some o → ρ[i]? = some s → SlR K Hs o s
section
variable {K : Fg} {Hs Hs' : Hp} {σ : L2.St} {ρ : Env}
theorem SlR.mono {o : Option V} {s : Sl} (e : Same Hs Hs') (h : SlR K Hs o s) : SlR K Hs' o s := by
  cases s with
  | u => trivial
  | d x => obtain ⟨v, a, b⟩ := h; exact ⟨v, a, dp_mono e b⟩
  | v x => exact h
theorem EnvR.mono (e : Same Hs Hs') (h : EnvR K Hs σ ρ) : EnvR K Hs' σ ρ := ⟨h.1, fun i o s a b => (h.2 i o s a b).mono e⟩
theorem EnvR.get (h : EnvR K Hs σ ρ) {i : Nat} {x : D} (e : ρ[i]? = some (.d x)) : ∃ v, σ[i]? = some (some v) ∧ Dq K Hs v x := by
  have hi : i < σ.length := by rw [h.1]; exact (List.getElem?_eq_some_iff.mp e).1
  obtain ⟨v, a, b⟩ := h.2 i _ _ (List.getElem?_eq_getElem hi) e
  exact ⟨v, by rw [List.getElem?_eq_getElem hi, a], b⟩
theorem EnvR.getV (h : EnvR K Hs σ ρ) {i : Nat} {x : V} (e : ρ[i]? = some (.v x)) : σ[i]? = some (some x) := by
  have hi : i < σ.length := by rw [h.1]; exact (List.getElem?_eq_some_iff.mp e).1
  have a := h.2 i _ _ (List.getElem?_eq_getElem hi) e
  rw [List.getElem?_eq_getElem hi]
  exact congrArg some a
theorem EnvR.set (h : EnvR K Hs σ ρ) (i : Nat) {o : Option V} {s : Sl} (r : SlR K Hs o s) : EnvR K Hs (σ.set i o) (ρ.set i s) := by
  refine ⟨by rw [List.length_set, List.length_set]; exact h.1, fun j o' s' a b => ?_⟩
  by_cases e : i = j
  · subst e
    have hi : i < σ.length := by
      have := (List.getElem?_eq_some_iff.mp a).1
      rwa [List.length_set] at this
    rw [List.getElem?_set_self hi] at a
    rw [List.getElem?_set_self (by rw [← h.1]; exact hi)] at b
    cases a; cases b; exact r
  · rw [List.getElem?_set_ne e] at a b
    exact h.2 j o' s' a b
theorem EnvR.weak {ρ' : Env} (h : EnvR K Hs σ ρ) (hl : ρ'.length = ρ.length) (w : ∀ (i : Nat) (s : Sl), ρ'[i]? = some s → s = .u ∨ ρ[i]? = some s) : EnvR K Hs σ ρ' := by
  refine ⟨h.1.trans hl.symm, fun i o s a b => ?_⟩
  rcases w i s b with e | e
  · subst e; exact trivial
  · exact h.2 i o s a e
def wipeE (ρ : Env) : List Nat → Env
  | [] => ρ
  | v :: vs => (wipeE ρ vs).set v .u
theorem EnvR.wipe (h : EnvR K Hs σ ρ) : ∀ vs : List Nat, EnvR K Hs (L2.wipe σ vs) (wipeE ρ vs)
  | [] => h
  | v :: vs => (h.wipe vs).set v (o := none) (s := .u) trivial
end

/-! ### things that change: a memory beside the shared data -/
inductive MO where
  | lst (ss : List Sl)
  | dct (kvs : List (Key × Sl))
  | ins (C dx : Addr) (fs : List (Str × Sl))
  | own (x : Addr)
  | tab (q : Str)
abbrev Mem := Addr → Option MO
def mup (M : Mem) (a : Addr) (o : MO) : Mem := fun b => if b = a then some o else M b
def mdel (M : Mem) (a : Addr) : Mem := fun b => if b = a then none else M b
def m0 : Mem := fun _ => none
theorem mup_same {M : Mem} {a : Addr} {o : MO} : mup M a o a = some o := by unfold mup; rw [if_pos rfl]
theorem mup_ne {M : Mem} {a b : Addr} {o : MO} (h : b ≠ a) : mup M a o b = M b := by unfold mup; rw [if_neg h]
theorem mup_mup {M : Mem} {a : Addr} {o u : MO} : mup (mup M a o) a u = mup M a u := by
  funext b; unfold mup; split <;> rfl
theorem mne {M : Mem} {a b : Addr} {o : MO} (h : M a = some o) (h' : M b = none) : a ≠ b := by intro e; subst e; rw [h] at h'; cases h'
def SlV (K : Fg) (Hs : Hp) (v : V) (s : Sl) : Prop := SlR K Hs (some v) s
theorem SlV.mono {K : Fg} {Hs Hs' : Hp} {v : V} {s : Sl} (e : Same Hs Hs') (h : SlV K Hs v s) : SlV K Hs' v s := SlR.mono e h
theorem slv_d {K : Fg} {Hs : Hp} {v : V} {d : D} (h : Dq K Hs v d) : SlV K Hs v (.d d) := ⟨v, rfl, h⟩
theorem slv_v {K : Fg} {Hs : Hp} {v : V} : SlV K Hs v (.v v) := rfl
theorem SlV.dp {K : Fg} {Hs : Hp} {v : V} {d : D} (h : SlV K Hs v (.d d)) : Dq K Hs v d := by
  obtain ⟨w, e, p⟩ := h; cases e; exact p
def RepO (K : Fg) (Hs : Hp) : HO → MO → Prop
  | .lst vs, .lst ss => Paired (SlV K Hs) vs ss
  | .dK kvs, .dct ks => Paired (fun (p : Key × V) (q : Key × Sl) => p.1 = q.1 ∧ SlV K Hs p.2 q.2) kvs ks
  | .ins C dx fs, .ins C' dx' gs => C = C' ∧ dx = dx' ∧ Paired (fun (p : Str × V) (q : Str × Sl) => p.1 = q.1 ∧ SlV K Hs p.2 q.2) fs gs
  | .own x, .own y => x = y
  | .tbl ps, .tab q => TriplesOk ps.toList ∧ ∀ (pos : Pos) (cv : Value), codeAmong pos ps.toList = some cv → ∃ c, cv = .ref c ∧ Hs c = some (LamX.CodeO c q)
  | _, _ => False
theorem RepO.mono {K : Fg} {Hs Hs' : Hp} {o : HO} {m : MO} (e : Same Hs Hs') (h : RepO K Hs o m) : RepO K Hs' o m := by
  cases o <;> cases m <;> first
    | exact Paired.mapP h fun _ _ q => q.mono e
    | exact Paired.mapP h fun _ _ q => ⟨q.1, q.2.mono e⟩
    | exact ⟨h.1, h.2.1, Paired.mapP h.2.2 fun _ _ q => ⟨q.1, q.2.mono e⟩⟩
    | exact ⟨h.1, fun pos cv hc => let ⟨c, e1, e2⟩ := h.2 pos cv hc; ⟨c, e1, e _ _ e2⟩⟩
    | exact h
theorem paired_app {α β : Type} {F : α → β → Prop} {l₁ m₁ : List α} {l₂ m₂ : List β} (h : Paired F l₁ l₂) (h' : Paired F m₁ m₂) : Paired F (l₁ ++ m₁) (l₂ ++ m₂) := by
  induction l₁ generalizing l₂ with
  | nil => cases h; exact h'
  | cons a l ih => cases h with | cons x y => exact .cons x (ih y)
structure RelM (K : Fg) (Hs H : Hp) (M : Mem) : Prop where
  i : Same Hs H
  m : ∀ a mo, M a = some mo → Hs a = none ∧ ∃ o, H a = some o ∧ RepO K Hs o mo
section
variable {K : Fg} {Hs H Hs' H' : Hp} {M : Mem}
theorem RelM.grow (r : RelM K Hs H M) (g : Grow Hs H Hs' H') : RelM K Hs' H' M :=
  ⟨g.i, fun a mo e => by
    obtain ⟨h1, o, h2, h3⟩ := r.m a mo e
    exact ⟨g.n a h1 (by rw [h2]; intro z; cases z), o, g.h a o h2, h3.mono g.s⟩⟩
/-- nothing is owned -/
theorem RelM.none (i : Same Hs H) : RelM K Hs H m0 := ⟨i, fun _ _ e => nomatch e⟩
end

instance {K : Fg} {Hs H : Hp} {M : Mem} : CoeOut (RelM K Hs H M) (Same Hs H) := ⟨fun r => r.i⟩
/-! ### the weakest readings -/
section
variable {X : Cx} {M : Mem} {e : Expr} {es : List Expr} {st : Stmt} {sts : List Stmt}
def tWe (X : Cx) (e : Expr) : TE := fun σ H Q => ∀ pins s, Inv X pins σ H s → wpAny (model X.prog X.w) X.A (eval e X.env) (EP X pins σ Q) X.xe s
def tWa (X : Cx) (es : List Expr) : TA := fun σ H Q => ∀ pos pins s, Inv X pins σ H s → wpAny (model X.prog X.w) X.A (spliced (backTo pos (starEach es X.env))) (AP X pins σ Q) X.xe s
def tWt (X : Cx) (e : Expr) : TT := fun σ H Q => ∀ pins s, Inv X pins σ H s → wpAny (model X.prog X.w) X.A (isTrue e X.env (eval e X.env)) (TP X pins σ Q) X.xe s
def tWw (X : Cx) (e : Expr) : TT := fun σ H Q => ∀ whole pins s, Inv X pins σ H s → wpAny (model X.prog X.w) X.A (isTrue e X.env whole) (TP X pins σ Q) X.xe s
def tWs (X : Cx) (st : Stmt) : TS := fun D σ H => ∀ pins s, Inv X pins σ H s → wpAny (model X.prog X.w) X.A (exec st X.env) (SP X pins D) X.xe s
def tWss (X : Cx) (sts : List Stmt) : TS := fun D σ H => ∀ pins s, Inv X pins σ H s → wpAny (model X.prog X.w) X.A (execs sts X.env) (SP X pins D) X.xe s
def tWi (X : Cx) (tg iter : Expr) : TI := fun σ H R => ∀ pins s, Inv X pins σ H s → wpAny (model X.prog X.w) X.A (eval iter X.env) (fun v s1 => wpAny (model X.prog X.w) X.A (pyIter v) (PIE X pins σ tg R) X.xe s1) X.xe s
def tWg (X : Cx) (tg : Expr) : TG := fun v σ H Q => ∀ pins s u, Inv X pins σ H s → RelV v u → wpAny (model X.prog X.w) X.A (assign tg X.env u) (fun _ s' => ∃ σ' H', Inv X pins σ' H' s' ∧ Q σ' H') X.xe s
theorem pe_w : PE X e (tWe X e) := ⟨fun pins s _ _ _ I h => h pins s I⟩
theorem pa_w : PA X es (tWa X es) := ⟨fun pos pins s _ _ _ I h => h pos pins s I⟩
theorem pt_w : PT X e (tWt X e) := ⟨fun pins s _ _ _ I h => h pins s I⟩
theorem pw_w : PW X e (tWw X e) := ⟨fun wh pins s _ _ _ I h => h wh pins s I⟩
theorem ps_w : PS X st (tWs X st) := ⟨fun pins s _ _ _ I h => h pins s I⟩
theorem pss_w : PSs X sts (tWss X sts) := ⟨fun pins s _ _ _ I h => h pins s I⟩
theorem pi_w {tg : Expr} : PI X tg e (tWi X tg e) := ⟨fun pins s _ _ _ I h => h pins s I⟩
theorem pg_w {tg : Expr} : PG X tg (tWg X tg) := ⟨fun pins s _ _ _ u _ I r h => h pins s u I r⟩
theorem _root_.L2.PE.w {t : TE} (h : PE X e t) {σ : L2.St} {H : Hp} {Q : VK} (q : t σ H Q) : tWe X e σ H Q := fun pins s I => h.run pins s σ H Q I q
theorem _root_.L2.PA.w {t : TA} (h : PA X es t) {σ : L2.St} {H : Hp} {Q : List V → Hp → Prop} (q : t σ H Q) : tWa X es σ H Q := fun pos pins s I => h.run pos pins s σ H Q I q
theorem _root_.L2.PT.w {t : TT} (h : PT X e t) {σ : L2.St} {H : Hp} {Q : Bool → Hp → Prop} (q : t σ H Q) : tWt X e σ H Q := fun pins s I => h.run pins s σ H Q I q
theorem _root_.L2.PW.w {t : TT} (h : PW X e t) {σ : L2.St} {H : Hp} {Q : Bool → Hp → Prop} (q : t σ H Q) : tWw X e σ H Q := fun wh pins s I => h.run wh pins s σ H Q I q
theorem _root_.L2.PS.w {t : TS} (h : PS X st t) {σ : L2.St} {H : Hp} {Q : Ends} (q : t Q σ H) : tWs X st Q σ H := fun pins s I => h.run pins s σ H Q I q
theorem _root_.L2.PSs.w {t : TS} (h : PSs X sts t) {σ : L2.St} {H : Hp} {Q : Ends} (q : t Q σ H) : tWss X sts Q σ H := fun pins s I => h.run pins s σ H Q I q
theorem _root_.L2.PI.w {tg : Expr} {t : TI} (h : PI X tg e t) {σ : L2.St} {H : Hp} {Q : It → Hp → Prop} (q : t σ H Q) : tWi X tg e σ H Q := fun pins s I => h.run pins s σ H Q I q
theorem _root_.L2.PG.w {tg : Expr} {t : TG} (h : PG X tg t) {v : V} {σ : L2.St} {H : Hp} {Q : L2.St → Hp → Prop} (q : t v σ H Q) : tWg X tg v σ H Q := fun pins s u I r => h.run pins s σ H v u Q I r q
end

/-! ### judgements by data -/
/-- e is the data d -/
structure PD (X : Cx) (e : Expr) (ρ : Env) (M : Mem) (d : D) : Prop where
  run : ∀ (Hs H : Hp) (σ : L2.St) (Q : VK), RelM X.K Hs H M → EnvR X.K Hs σ ρ → (∀ v Hs' H', Grow Hs H Hs' H' → Dq X.K Hs' v d → Q v H') → tWe X e σ H Q
structure PDs (X : Cx) (es : List Expr) (ρ : Env) (M : Mem) (ds : List D) : Prop where
  run : ∀ (Hs H : Hp) (σ : L2.St) (Q : List V → Hp → Prop), RelM X.K Hs H M → EnvR X.K Hs σ ρ → (∀ vs Hs' H', Grow Hs H Hs' H' → DqAll X.K Hs' vs ds → Q vs H') → tWa X es σ H Q
structure PTD (X : Cx) (e : Expr) (ρ : Env) (M : Mem) (b : Bool) : Prop where
  run : ∀ (Hs H : Hp) (σ : L2.St) (Q : Bool → Hp → Prop), RelM X.K Hs H M → EnvR X.K Hs σ ρ → (∀ Hs' H', Grow Hs H Hs' H' → Q b H') → tWt X e σ H Q
structure PWD (X : Cx) (e : Expr) (ρ : Env) (M : Mem) (b : Bool) : Prop where
  run : ∀ (Hs H : Hp) (σ : L2.St) (Q : Bool → Hp → Prop), RelM X.K Hs H M → EnvR X.K Hs σ ρ → (∀ Hs' H', Grow Hs H Hs' H' → Q b H') → tWw X e σ H Q
/-- what a two-place reading does on data; a call; one value -/
def RD (K : Fg) (r : R2) (x y d : D) : Prop := ∀ (Hs H : Hp) (v u : V) (Q : VK), Same Hs H → Dq K Hs v x → Dq K Hs u y → (∀ z Hs' H', Grow Hs H Hs' H' → Dq K Hs' z d → Q z H') → r v u H Q
def UD (K : Fg) (r : V → Hp → VK → Prop) (x d : D) : Prop := ∀ (Hs H : Hp) (v : V) (Q : VK), Same Hs H → Dq K Hs v x → (∀ z Hs' H', Grow Hs H Hs' H' → Dq K Hs' z d → Q z H') → r v H Q
def CD (K : Fg) (r : List V → Hp → VK → Prop) (xs : List D) (d : D) : Prop := ∀ (Hs H : Hp) (vs : List V) (Q : VK), Same Hs H → DqAll K Hs vs xs → (∀ z Hs' H', Grow Hs H Hs' H' → Dq K Hs' z d → Q z H') → r vs H Q
def MD (K : Fg) (r : V → List V → Hp → VK → Prop) (x : D) (xs : List D) (d : D) : Prop := ∀ (Hs H : Hp) (v : V) (vs : List V) (Q : VK), Same Hs H → Dq K Hs v x → DqAll K Hs vs xs → (∀ z Hs' H', Grow Hs H Hs' H' → Dq K Hs' z d → Q z H') → r v vs H Q
section
variable {X : Cx} {M : Mem} {e a b : Expr} {es : List Expr} {ρ : Env} {d x y z : D} {ds : List D} {pos : Pos}
theorem PD.eq (h : PD X e ρ M d) {d' : D} (q : d = d') : PD X e ρ M d' := q ▸ h
theorem PTD.eq {b b' : Bool} (h : PTD X e ρ M b) (q : b = b') : PTD X e ρ M b' := q ▸ h
theorem PD.env (h : PD X e ρ M d) {ρ' : Env} (hl : ρ.length = ρ'.length) (w : ∀ (i : Nat) (s : Sl), ρ[i]? = some s → s = .u ∨ ρ'[i]? = some s) : PD X e ρ' M d := ⟨fun Hs H σ Q i r k => h.run Hs H σ Q i (r.weak hl w) k⟩
theorem pd_of {t : TE} (h : PE X e t) (q : ∀ (Hs H : Hp) (σ : L2.St) (Q : VK), RelM X.K Hs H M → EnvR X.K Hs σ ρ → (∀ v Hs' H', Grow Hs H Hs' H' → Dq X.K Hs' v d → Q v H') → t σ H Q) : PD X e ρ M d :=
  ⟨fun Hs H σ Q i r k => h.w (q Hs H σ Q i r k)⟩
theorem ptd_of {t : TT} {c : Bool} (h : PT X e t) (q : ∀ (Hs H : Hp) (σ : L2.St) (Q : Bool → Hp → Prop), RelM X.K Hs H M → EnvR X.K Hs σ ρ → (∀ Hs' H', Grow Hs H Hs' H' → Q c H') → t σ H Q) : PTD X e ρ M c :=
  ⟨fun Hs H σ Q i r k => PT.w h (q Hs H σ Q i r k)⟩
/-! names, constants -/
theorem pdv (i : Nat) {x : Str} {pos : Pos} (h : ρ[i]? = some (.d d) := by rfl) (hN : X.N[i]? = some x := by rfl) (hv : Vis X.env.scope x := by first | exact Or.inl rfl | exact Or.inr (Or.inl rfl) | exact Or.inr (Or.inr rfl)) (hd : (x == ("__debug__" : Str)) = false := by decide)
    (hcd : (x == ("__classdict__" : Str)) = false := by decide) : PD X (.Name x pos) ρ M d :=
  pd_of (pe_var hN hv hd hcd) fun Hs H σ Q i r k => by
    obtain ⟨v, e1, e2⟩ := r.get h
    exact ⟨v, e1, k v Hs H (.refl i) e2⟩
theorem pd_int {i j pos} : PD X (.Constant (.int i) j pos) ρ M (.int i) := pd_of pe_int fun Hs H _ _ i _ k => k _ Hs H (.refl i) (.int _)
theorem pd_bl {b j pos} : PD X (.Constant (.bool b) j pos) ρ M (.bool b) := pd_of pe_bl fun Hs H _ _ i _ k => k _ Hs H (.refl i) (.bl _)
theorem pd_non {j pos} : PD X (.Constant .none j pos) ρ M .none := pd_of pe_non fun Hs H _ _ i _ k => k _ Hs H (.refl i) .non
theorem pd_str {x j pos} : PD X (.Constant (.str x) j pos) ρ M (.str x) := pd_of pe_str fun Hs H _ _ i _ k => k _ Hs H (.refl i) (.str _)
theorem pd_glob {x : Str} {v : V} {u : Value} {pos : Pos} (hg : Gl X x) (hm : X.mg x = some u) (r : RelV v u) (hv : ∀ H, Dq X.K H v d) (hd : (x == ("__debug__" : Str)) = false := by decide) : PD X (.Name x pos) ρ M d :=
  pd_of (pe_glob hg hm r hd) fun Hs H _ _ i _ k => k _ Hs H (.refl i) (hv _)
/-! arguments -/
theorem pds_nil : PDs X [] ρ M [] := ⟨fun Hs H σ Q i _ k => PA.w pa_nil (k [] Hs H (.refl i) .nil)⟩
theorem pds_cons (ha : PD X e ρ M d) (hr : PDs X es ρ M ds) (hs : starEach (e :: es) X.env = (false, eval e X.env) :: starEach es X.env := by rfl) : PDs X (e :: es) ρ M (d :: ds) :=
  ⟨fun Hs H σ Q i r k => PA.w (pa_cons pe_w pa_w hs) (ha.run Hs H σ _ i r fun v Hs1 H1 g1 p1 => hr.run Hs1 H1 σ _ (i.grow g1) (r.mono g1.s) fun vs Hs2 H2 g2 p2 => k _ Hs2 H2 (g1.trans g2) (.cons (dp_mono g2.s p1) p2))⟩
theorem pd_tup {x1} (h : PDs X es ρ M ds) (hz : ds.length ≤ sizeLine := by exact Nat.le_of_ble_eq_true rfl) : PD X (.Tuple es x1 pos) ρ M (.tuple ds) :=
  pd_of (pe_tupF pa_w) fun Hs H σ Q i r k => h.run Hs H σ _ i r fun vs Hs1 H1 g1 p1 => ⟨by rw [p1.len]; exact hz, fun p o hp ho => k _ _ _ (g1.trans (.new g1.i hp)) (.tup (.of upd_same ho) (dpAll_mono (same_upd (g1.i.free hp)) p1))⟩
theorem pd_lst (h : PDs X es ρ M ds) (hz : ds.length ≤ sizeLine := by exact Nat.le_of_ble_eq_true rfl) : PD X (.List es pos) ρ M (.list ds) :=
  pd_of (pe_lst pa_w) fun Hs H σ Q i r k => h.run Hs H σ _ i r fun vs Hs1 H1 g1 p1 => ⟨by rw [p1.len]; exact hz, fun p hp => k _ _ _ (g1.trans (.new g1.i hp)) (.lst (.of upd_same) (dpAll_mono (same_upd (g1.i.free hp)) p1))⟩
/-! operators -/
theorem two {r : R2} (ha : PD X a ρ M x) (hb : PD X b ρ M y) (hr : RD X.K r x y z) (Hs H : Hp) (σ : L2.St) (Q : VK) (i : RelM X.K Hs H M) (q : EnvR X.K Hs σ ρ) (k : ∀ v Hs' H', Grow Hs H Hs' H' → Dq X.K Hs' v z → Q v H') : tOp r (tWe X a) (tWe X b) σ H Q :=
  ha.run Hs H σ _ i q fun v Hs1 H1 g1 p1 => hb.run Hs1 H1 σ _ (i.grow g1) (q.mono g1.s) fun u Hs2 H2 g2 p2 => hr Hs2 H2 v u Q g2.i (dp_mono g2.s p1) p2 fun z Hs3 H3 g3 p3 => k z Hs3 H3 ((g1.trans g2).trans g3) p3
theorem pd_op {op : Operator} {r : R2} (ho : OpR X (binaryOp op) r) (hr : RD X.K r x y z) (ha : PD X a ρ M x) (hb : PD X b ρ M y) : PD X (.BinOp a op b pos) ρ M z := pd_of (pe_op ho pe_w pe_w) (two ha hb hr)
theorem pd_un {op : UnaryOp} {r : V → Hp → VK → Prop} (ho : UnR X (unaryOp op) r) (hr : UD X.K r x z) (ha : PD X a ρ M x) : PD X (.UnaryOp op a pos) ρ M z :=
  pd_of (pe_un ho pe_w) fun Hs H σ Q i q k => ha.run Hs H σ _ i q fun v Hs1 H1 g1 p1 => hr Hs1 H1 v Q g1.i p1 fun z Hs3 H3 g3 p3 => k z Hs3 H3 (g1.trans g3) p3
theorem pd_cmp {op : CmpOp} {r : R2} (ho : OpR X (compareOp op) r) (hr : RD X.K r x y z) (ha : PD X a ρ M x) (hb : PD X b ρ M y) (hm : behindInMarks op b = false := by first | exact nobehind _ (by decide) (by decide) | rfl) : PD X (.Compare a [op] [b] pos) ρ M z := pd_of (pe_cmpR ho pe_w pe_w hm) (two ha hb hr)
theorem ptd_cmp {op : CmpOp} {r : R2} {c : Bool} (ho : OpR X (compareOp op) r) (hr : RD X.K r x y (.bool c)) (ha : PD X a ρ M x) (hb : PD X b ρ M y) (hm : behindInMarks op b = false := by first | exact nobehind _ (by decide) (by decide) | rfl) : PTD X (.Compare a [op] [b] pos) ρ M c :=
  ptd_of (pt_cmpR ho pe_w pe_w hm) fun Hs H σ Q i q k => two ha hb hr Hs H σ _ i q fun v Hs1 H1 g1 p1 => ⟨c, dp_bl p1, k Hs1 H1 g1⟩
theorem pd_ix {r : R2} (ho : IxR X r) (hr : RD X.K r x y z) (ha : PD X a ρ M x) (hb : PD X b ρ M y) (hs : PlainIx b := by exact fun _ _ => rfl) : PD X (.Subscript a b pos) ρ M z := pd_of (pe_ix ho pe_w pe_w hs) (two ha hb hr)
theorem rd_I0 {K : Fg} {g : Int → Int → V} {i j : Int} (h : ∀ H, Dq K H (g i j) d) : RD K (rI0 g) (.int i) (.int j) d := fun Hs H v u Q s p q k => ⟨i, j, dp_int p, dp_int q, k _ Hs H (.refl s) (h _)⟩
theorem rd_I {K : Fg} {C : Int → Int → Prop} {g : Int → Int → V} {i j : Int} (hc : C i j) (h : ∀ H, Dq K H (g i j) d) : RD K (rI C g) (.int i) (.int j) d := fun Hs H v u Q s p q k => ⟨i, j, dp_int p, dp_int q, hc, k _ Hs H (.refl s) (h _)⟩
theorem pd_add {i j : Int} (ha : PD X a ρ M (.int i)) (hb : PD X b ρ M (.int j)) : PD X (.BinOp a .Add b pos) ρ M (.int (i + j)) := pd_op op_add (rd_I0 fun _ => .int _) ha hb
theorem pd_sub {i j : Int} (ha : PD X a ρ M (.int i)) (hb : PD X b ρ M (.int j)) : PD X (.BinOp a .Sub b pos) ρ M (.int (i - j)) := pd_op op_sub (rd_I0 fun _ => .int _) ha hb
theorem pd_mulL {i j : Int} (ha : PD X a ρ M (.int i)) (hb : PD X b ρ M (.int j)) (h : -(2 ^ 64) < i ∧ i < 2 ^ 64) : PD X (.BinOp a .Mult b pos) ρ M (.int (i * j)) := pd_op op_mul (rd_I (.inl h) fun _ => .int _) ha hb
theorem pd_mulR {i j : Int} (ha : PD X a ρ M (.int i)) (hb : PD X b ρ M (.int j)) (h : -(2 ^ 64) < j ∧ j < 2 ^ 64) : PD X (.BinOp a .Mult b pos) ρ M (.int (i * j)) := pd_op op_mul (rd_I (.inr h) fun _ => .int _) ha hb
theorem pd_div {i j : Int} (ha : PD X a ρ M (.int i)) (hb : PD X b ρ M (.int j)) (h : 0 < j ∧ j < 1073741824) : PD X (.BinOp a .FloorDiv b pos) ρ M (.int (i / j)) := pd_op op_fdiv (rd_I h fun _ => .int _) ha hb
theorem pd_mod {i j : Int} (ha : PD X a ρ M (.int i)) (hb : PD X b ρ M (.int j)) (h : 0 < j) : PD X (.BinOp a .Mod b pos) ρ M (.int (i % j)) := pd_op op_mod (rd_I h fun _ => .int _) ha hb
theorem pd_neg {i : Int} (ha : PD X a ρ M (.int i)) : PD X (.UnaryOp .USub a pos) ρ M (.int (-i)) := pd_un un_neg (fun Hs H v Q s p k => ⟨i, dp_int p, k _ Hs H (.refl s) (.int _)⟩) ha
end
end AB
namespace AB
open PySem L2
section
variable {X : Cx} {M : Mem} {e a b c : Expr} {es rest : List Expr} {ρ : Env} {d x y z : D} {ds : List D} {pos : Pos}
/-! ### truth -/
theorem pd_one {op} (h : PD X a ρ M d) : PD X (.BoolOp op [a] pos) ρ M d := pd_of (pe_one pe_w) fun Hs H σ Q i r k => h.run Hs H σ Q i r k
theorem pd_and {u v : Bool} (ha : PD X a ρ M (.bool u)) (hb : u = true → PD X (.BoolOp .And (b :: rest) pos) ρ M (.bool v)) : PD X (.BoolOp .And (a :: b :: rest) pos) ρ M (.bool (u && v)) :=
  pd_of (pe_and pe_w pe_w) fun Hs H σ Q i r k => ha.run Hs H σ _ i r fun w Hs1 H1 g1 p1 => ⟨u, dp_bl p1, by
    cases u with
    | true => exact iteT ((hb rfl).run Hs1 H1 σ Q (i.grow g1) (r.mono g1.s) fun w Hs2 H2 g2 p2 => k w Hs2 H2 (g1.trans g2) p2)
    | false => exact iteF (k _ Hs1 H1 g1 (.bl _))⟩
theorem pd_or {u v : Bool} (ha : PD X a ρ M (.bool u)) (hb : u = false → PD X (.BoolOp .Or (b :: rest) pos) ρ M (.bool v)) : PD X (.BoolOp .Or (a :: b :: rest) pos) ρ M (.bool (u || v)) :=
  pd_of (pe_or pe_w pe_w) fun Hs H σ Q i r k => ha.run Hs H σ _ i r fun w Hs1 H1 g1 p1 => ⟨u, dp_bl p1, by
    cases u with
    | false => exact iteF ((hb rfl).run Hs1 H1 σ Q (i.grow g1) (r.mono g1.s) fun w Hs2 H2 g2 p2 => k w Hs2 H2 (g1.trans g2) p2)
    | true => exact iteT (k _ Hs1 H1 g1 (.bl _))⟩
theorem pd_not {u : Bool} (ha : PD X a ρ M (.bool u)) : PD X (.UnaryOp .Not a pos) ρ M (.bool (!u)) :=
  pd_of (pe_not pe_w) fun Hs H σ Q i r k => ha.run Hs H σ _ i r fun w Hs1 H1 g1 p1 => ⟨u, dp_bl p1, k _ Hs1 H1 g1 (.bl _)⟩
theorem ptd_val {u : Bool} (h : PD X e ρ M (.bool u)) (he : ∀ whole, isTrue e X.env whole = (do let v ← whole; standAt e.pos; holding [v] (truthy v)) := by intro _; rfl) : PTD X e ρ M u :=
  ptd_of (pt_val pe_w he) fun Hs H σ Q i r k => h.run Hs H σ _ i r fun w Hs1 H1 g1 p1 => ⟨u, dp_bl p1, k Hs1 H1 g1⟩
theorem ptd_not {u : Bool} (h : PTD X a ρ M u) : PTD X (.UnaryOp .Not a pos) ρ M (!u) :=
  ptd_of (pt_not pt_w) fun Hs H σ Q i r k => h.run Hs H σ _ i r fun Hs1 H1 g1 => k Hs1 H1 g1
theorem PWD.pt {u : Bool} (h : PWD X e ρ M u) : PTD X e ρ M u := ⟨fun Hs H σ Q i r k pins s I => h.run Hs H σ Q i r k _ pins s I⟩
theorem pwd_and1 {u : Bool} (ha : PTD X a ρ M u) : PWD X (.BoolOp .And [a] pos) ρ M u := ⟨fun Hs H σ Q i r k => PW.w (pw_and1 pt_w) (ha.run Hs H σ Q i r k)⟩
theorem pwd_or1 {u : Bool} (ha : PTD X a ρ M u) : PWD X (.BoolOp .Or [a] pos) ρ M u := ⟨fun Hs H σ Q i r k => PW.w (pw_or1 pt_w) (ha.run Hs H σ Q i r k)⟩
theorem pwd_and {u v : Bool} (ha : PTD X a ρ M u) (hb : u = true → PWD X (.BoolOp .And (b :: rest) pos) ρ M v) : PWD X (.BoolOp .And (a :: b :: rest) pos) ρ M (u && v) :=
  ⟨fun Hs H σ Q i r k => PW.w (pw_and pt_w pw_w) (ha.run Hs H σ _ i r fun Hs1 H1 g1 => by
    cases u with
    | true => exact iteT ((hb rfl).run Hs1 H1 σ Q (i.grow g1) (r.mono g1.s) fun Hs2 H2 g2 => k Hs2 H2 (g1.trans g2))
    | false => exact iteF (k Hs1 H1 g1))⟩
theorem pwd_or {u v : Bool} (ha : PTD X a ρ M u) (hb : u = false → PWD X (.BoolOp .Or (b :: rest) pos) ρ M v) : PWD X (.BoolOp .Or (a :: b :: rest) pos) ρ M (u || v) :=
  ⟨fun Hs H σ Q i r k => PW.w (pw_or pt_w pw_w) (ha.run Hs H σ _ i r fun Hs1 H1 g1 => by
    cases u with
    | false => exact iteF ((hb rfl).run Hs1 H1 σ Q (i.grow g1) (r.mono g1.s) fun Hs2 H2 g2 => k Hs2 H2 (g1.trans g2))
    | true => exact iteT (k Hs1 H1 g1))⟩
theorem pd_ifExp {u : Bool} {c : Expr} (hc : PTD X c ρ M u) (ha : u = true → PD X a ρ M d) (hb : u = false → PD X b ρ M d) : PD X (.IfExp c a b pos) ρ M d :=
  pd_of (pe_ifExp pt_w pe_w pe_w) fun Hs H σ Q i r k => hc.run Hs H σ _ i r fun Hs1 H1 g1 => by
    cases u with
    | true => exact iteT ((ha rfl).run Hs1 H1 σ Q (i.grow g1) (r.mono g1.s) fun w Hs2 H2 g2 p2 => k w Hs2 H2 (g1.trans g2) p2)
    | false => exact iteF ((hb rfl).run Hs1 H1 σ Q (i.grow g1) (r.mono g1.s) fun w Hs2 H2 g2 p2 => k w Hs2 H2 (g1.trans g2) p2)
/-- a < b < c -/
theorem chain {op op' : CmpOp} {r r' : R2} {u v : Bool} (hr : RD X.K r x y (.bool u)) (hr' : u = true → RD X.K r' y z (.bool v)) (ha : PD X a ρ M x) (hb : PD X b ρ M y) (hc : PD X c ρ M z) (Hs H : Hp) (σ : L2.St) (Q : VK) (i : RelM X.K Hs H M) (q : EnvR X.K Hs σ ρ) (k : ∀ w Hs' H', Grow Hs H Hs' H' → Dq X.K Hs' w (.bool (u && v)) → Q w H') :
    tChain r r' (tWe X a) (tWe X b) (tWe X c) σ H Q :=
  ha.run Hs H σ _ i q fun w1 Hs1 H1 g1 p1 => hb.run Hs1 H1 σ _ (i.grow g1) (q.mono g1.s) fun w2 Hs2 H2 g2 p2 => hr Hs2 H2 w1 w2 _ g2.i (dp_mono g2.s p1) p2 fun z Hs3 H3 g3 p3 => ⟨u, dp_bl p3, by
    cases u with
    | true => exact iteT (hc.run Hs3 H3 σ _ (i.grow ((g1.trans g2).trans g3)) (q.mono ((g1.trans g2).trans g3).s) fun w4 Hs4 H4 g4 p4 => hr' rfl Hs4 H4 w2 w4 Q g4.i (dp_mono (g3.trans g4).s p2) p4 fun w Hs5 H5 g5 p5 => k w Hs5 H5 (((g1.trans g2).trans g3).trans (g4.trans g5)) p5)
    | false => exact iteF (k _ Hs3 H3 ((g1.trans g2).trans g3) (.bl _))⟩
theorem pd_chain {op op' : CmpOp} {r r' : R2} {u v : Bool} (ho : OpR X (compareOp op) r) (ho' : OpR X (compareOp op') r') (hr : RD X.K r x y (.bool u)) (hr' : u = true → RD X.K r' y z (.bool v)) (ha : PD X a ρ M x) (hb : PD X b ρ M y) (hc : PD X c ρ M z)
    (hm : lastMarks [op, op'] [b, c] = false := by with_unfolding_all rfl) : PD X (.Compare a [op, op'] [b, c] pos) ρ M (.bool (u && v)) := pd_of (pe_chain ho ho' pe_w pe_w pe_w hm) (chain (op := op) (op' := op') hr hr' ha hb hc)
theorem ptd_chain {op op' : CmpOp} {r r' : R2} {u v : Bool} (ho : OpR X (compareOp op) r) (ho' : OpR X (compareOp op') r') (hr : RD X.K r x y (.bool u)) (hr' : u = true → RD X.K r' y z (.bool v)) (ha : PD X a ρ M x) (hb : PD X b ρ M y) (hc : PD X c ρ M z)
    (hm : lastMarks [op, op'] [b, c] = false := by with_unfolding_all rfl) : PTD X (.Compare a [op, op'] [b, c] pos) ρ M (u && v) :=
  ptd_of (pt_chain ho ho' pe_w pe_w pe_w hm) fun Hs H σ Q i q k => chain (op := op) (op' := op') hr hr' ha hb hc Hs H σ _ i q fun w Hs1 H1 g1 p1 => ⟨_, dp_bl p1, k Hs1 H1 g1⟩
/-! ### comparisons -/
theorem rd_B {K : Fg} {g : Int → Int → Bool} {i j : Int} : RD K (rI0 fun i j => .bl (g i j)) (.int i) (.int j) (.bool (g i j)) := rd_I0 fun _ => .bl _
theorem rd_ltS {K : Fg} {s t : Str} : RD K (fun x y H Q => ∃ i j, x = .str i ∧ y = .str j ∧ Q (.bl (decide (i.cps.toList < j.cps.toList))) H) (.str s) (.str t) (.bool (decide (s.cps.toList < t.cps.toList))) :=
  fun Hs H v u Q i p q k => ⟨s, t, dp_str p, dp_str q, k _ Hs H (.refl i) (.bl _)⟩
theorem rd_leS {K : Fg} {s t : Str} : RD K (fun x y H Q => ∃ i j, x = .str i ∧ y = .str j ∧ Q (.bl (!decide (j.cps.toList < i.cps.toList))) H) (.str s) (.str t) (.bool (!decide (t.cps.toList < s.cps.toList))) :=
  fun Hs H v u Q i p q k => ⟨s, t, dp_str p, dp_str q, k _ Hs H (.refl i) (.bl _)⟩
theorem rd_eqD {K : Fg} (hx : SeqAt.shaped x = true) (hy : SeqAt.shaped y = true) : RD K (rEqD K) x y (.bool (PyData.eqv x y)) :=
  fun Hs H v u Q i p q k => ⟨x, y, (dp_mono i p).dp (SeqAt.canLay_of_shaped hx), (dp_mono i q).dp (SeqAt.canLay_of_shaped hy), hx, hy, k _ Hs H (.refl i) (.bl _)⟩
theorem rd_neD {K : Fg} (hx : SeqAt.shaped x = true) (hy : SeqAt.shaped y = true) : RD K (rNeD K) x y (.bool (!PyData.eqv x y)) :=
  fun Hs H v u Q i p q k => ⟨x, y, (dp_mono i p).dp (SeqAt.canLay_of_shaped hx), (dp_mono i q).dp (SeqAt.canLay_of_shaped hy), hx, hy, k _ Hs H (.refl i) (.bl _)⟩
def isNone : D → Bool
  | .none => true
  | _ => false
theorem dec_non {K : Fg} {H : Hp} {v : V} (p : Dq K H v x) : decide (v = .non) = isNone x := by cases p <;> rfl
theorem rd_isN {K : Fg} : RD K (fun x y H Q => y = .non ∧ Q (.bl (decide (x = .non))) H) x .none (.bool (isNone x)) :=
  fun Hs H v u Q i p q k => ⟨dp_non q, by rw [dec_non p]; exact k _ Hs H (.refl i) (.bl _)⟩
theorem rd_notN {K : Fg} : RD K (fun x y H Q => y = .non ∧ Q (.bl (!decide (x = .non))) H) x .none (.bool (!isNone x)) :=
  fun Hs H v u Q i p q k => ⟨dp_non q, by rw [dec_non p]; exact k _ Hs H (.refl i) (.bl _)⟩
theorem pd_eq (hu : X.A.units + 64 < cLine) (ha : PD X a ρ M x) (hb : PD X b ρ M y) (hx : SeqAt.shaped x = true) (hy : SeqAt.shaped y = true) : PD X (.Compare a [.Eq] [b] pos) ρ M (.bool (PyData.eqv x y)) := pd_cmp (op_eqD hu) (rd_eqD hx hy) ha hb
theorem pd_ne (hu : X.A.units + 64 < cLine) (ha : PD X a ρ M x) (hb : PD X b ρ M y) (hx : SeqAt.shaped x = true) (hy : SeqAt.shaped y = true) : PD X (.Compare a [.NotEq] [b] pos) ρ M (.bool (!PyData.eqv x y)) := pd_cmp (op_neD hu) (rd_neD hx hy) ha hb
theorem ptd_eq (hu : X.A.units + 64 < cLine) (ha : PD X a ρ M x) (hb : PD X b ρ M y) (hx : SeqAt.shaped x = true) (hy : SeqAt.shaped y = true) : PTD X (.Compare a [.Eq] [b] pos) ρ M (PyData.eqv x y) := ptd_cmp (op_eqD hu) (rd_eqD hx hy) ha hb
theorem ptd_ne (hu : X.A.units + 64 < cLine) (ha : PD X a ρ M x) (hb : PD X b ρ M y) (hx : SeqAt.shaped x = true) (hy : SeqAt.shaped y = true) : PTD X (.Compare a [.NotEq] [b] pos) ρ M (!PyData.eqv x y) := ptd_cmp (op_neD hu) (rd_neD hx hy) ha hb
/-- texts, ints, bools as they stand -/
def flatD : D → Bool
  | .none => true | .bool _ => true | .int _ => true | .str _ => true
  | _ => false
theorem ptd_eqS {s t : Str} (ha : PD X a ρ M (.str s)) (hb : PD X b ρ M (.str t)) : PTD X (.Compare a [.Eq] [b] pos) ρ M (decide (s = t)) :=
  ptd_cmp op_eq (fun Hs H v u Q i p q k => by cases p; cases q; exact ⟨rfl, k _ Hs H (.refl i) (by
    have : decide (V.str s = V.str t) = decide (s = t) := by
      by_cases h : s = t
      · subst h; simp
      · rw [decide_eq_false h, decide_eq_false fun q => h (V.str.inj q)]
    rw [this]; exact .bl _)⟩) ha hb
theorem ptd_neS {s t : Str} (ha : PD X a ρ M (.str s)) (hb : PD X b ρ M (.str t)) : PTD X (.Compare a [.NotEq] [b] pos) ρ M (!decide (s = t)) :=
  ptd_cmp op_ne (fun Hs H v u Q i p q k => by cases p; cases q; exact ⟨rfl, k _ Hs H (.refl i) (by
    have : decide (V.str s = V.str t) = decide (s = t) := by
      by_cases h : s = t
      · subst h; simp
      · rw [decide_eq_false h, decide_eq_false fun q => h (V.str.inj q)]
    rw [this]; exact .bl _)⟩) ha hb
theorem decV_int {i j : Int} : decide (V.int i = V.int j) = decide (i = j) := by
  by_cases h : i = j
  · subst h; simp
  · rw [decide_eq_false h, decide_eq_false fun q => h (V.int.inj q)]
theorem pd_eqI {i j : Int} (ha : PD X a ρ M (.int i)) (hb : PD X b ρ M (.int j)) : PD X (.Compare a [.Eq] [b] pos) ρ M (.bool (decide (i = j))) :=
  pd_cmp op_eq (fun Hs H v u Q s p q k => by cases p; cases q; exact ⟨rfl, k _ Hs H (.refl s) (by rw [decV_int]; exact .bl _)⟩) ha hb
theorem ptd_eqI {i j : Int} (ha : PD X a ρ M (.int i)) (hb : PD X b ρ M (.int j)) : PTD X (.Compare a [.Eq] [b] pos) ρ M (decide (i = j)) :=
  ptd_cmp op_eq (fun Hs H v u Q s p q k => by cases p; cases q; exact ⟨rfl, k _ Hs H (.refl s) (by rw [decV_int]; exact .bl _)⟩) ha hb
theorem ptd_neI {i j : Int} (ha : PD X a ρ M (.int i)) (hb : PD X b ρ M (.int j)) : PTD X (.Compare a [.NotEq] [b] pos) ρ M (!decide (i = j)) :=
  ptd_cmp op_ne (fun Hs H v u Q s p q k => by cases p; cases q; exact ⟨rfl, k _ Hs H (.refl s) (by rw [decV_int]; exact .bl _)⟩) ha hb
theorem pd_lt {i j : Int} (ha : PD X a ρ M (.int i)) (hb : PD X b ρ M (.int j)) : PD X (.Compare a [.Lt] [b] pos) ρ M (.bool (decide (i < j))) := pd_cmp op_lt rd_B ha hb
theorem ptd_lt {i j : Int} (ha : PD X a ρ M (.int i)) (hb : PD X b ρ M (.int j)) : PTD X (.Compare a [.Lt] [b] pos) ρ M (decide (i < j)) := ptd_cmp op_lt rd_B ha hb
theorem ptd_le {i j : Int} (ha : PD X a ρ M (.int i)) (hb : PD X b ρ M (.int j)) : PTD X (.Compare a [.LtE] [b] pos) ρ M (decide (i ≤ j)) := ptd_cmp op_le rd_B ha hb
theorem ptd_gt {i j : Int} (ha : PD X a ρ M (.int i)) (hb : PD X b ρ M (.int j)) : PTD X (.Compare a [.Gt] [b] pos) ρ M (decide (j < i)) := ptd_cmp op_gt rd_B ha hb
theorem ptd_ge {i j : Int} (ha : PD X a ρ M (.int i)) (hb : PD X b ρ M (.int j)) : PTD X (.Compare a [.GtE] [b] pos) ρ M (decide (j ≤ i)) := ptd_cmp op_ge rd_B ha hb
theorem pd_isN (ha : PD X a ρ M x) (hb : PD X b ρ M .none) : PD X (.Compare a [.Is] [b] pos) ρ M (.bool (isNone x)) := pd_cmp op_isN rd_isN ha hb
theorem ptd_isN (ha : PD X a ρ M x) (hb : PD X b ρ M .none) : PTD X (.Compare a [.Is] [b] pos) ρ M (isNone x) := ptd_cmp op_isN rd_isN ha hb
theorem ptd_notN (ha : PD X a ρ M x) (hb : PD X b ρ M .none) : PTD X (.Compare a [.IsNot] [b] pos) ρ M (!isNone x) := ptd_cmp op_notN rd_notN ha hb
/-! ### places, slices, + -/
theorem atI_all {K : Fg} {H : Hp} {vs : List V} (h : DqAll K H vs ds) {i : Int} (e : atI ds i = some d) : ∃ v, atI vs i = some v ∧ Dq K H v d := by
  unfold atI at e ⊢
  rw [h.len]
  cases q : ixN ds.length i with
  | none => rw [q] at e; cases e
  | some j => rw [q] at e; exact h.get e
theorem rd_ixT {K : Fg} {i : Int} (h : atI ds i = some d) : RD K (rIxT K) (.tuple ds) (.int i) d := fun Hs H v u Q s p q k => by
  obtain ⟨a, vs, rfl, ha, pa⟩ := dp_tup p
  obtain ⟨w, e, pw⟩ := atI_all pa h
  exact ⟨a, vs, i, w, rfl, dp_int q, (ha.mono s).sq, e, k _ Hs H (.refl s) pw⟩
theorem rd_ixL {K : Fg} {i : Int} (h : atI ds i = some d) : RD K (rIxL K) (.list ds) (.int i) d := fun Hs H v u Q s p q k => by
  obtain ⟨a, vs, rfl, ha, pa⟩ := dp_lst p
  obtain ⟨w, e, pw⟩ := atI_all pa h
  exact ⟨a, vs, i, w, rfl, dp_int q, s.seq ha, e, k _ Hs H (.refl s) pw⟩
theorem rd_ixS {K : Fg} {i : Int} {t : Str} {c : Nat} (hz : t.length ≤ sizeLine) (h : atI t.cps.toList i = some c) : RD K rIxS (.str t) (.int i) (.str ⟨#[c]⟩) := fun Hs H v u Q s p q k =>
  ⟨t, i, c, dp_str p, dp_int q, hz, h, k _ Hs H (.refl s) (.str _)⟩
theorem pd_ixT {i : Int} (ha : PD X a ρ M (.tuple ds)) (hb : PD X b ρ M (.int i)) (h : atI ds i = some d) (hs : PlainIx b := by exact fun _ _ => rfl) : PD X (.Subscript a b pos) ρ M d := pd_ix ix_tup (rd_ixT h) ha hb hs
theorem pd_ixL {i : Int} (ha : PD X a ρ M (.list ds)) (hb : PD X b ρ M (.int i)) (h : atI ds i = some d) (hs : PlainIx b := by exact fun _ _ => rfl) : PD X (.Subscript a b pos) ρ M d := pd_ix ix_list (rd_ixL h) ha hb hs
theorem pd_ixS {i : Int} {t : Str} {c : Nat} (ha : PD X a ρ M (.str t)) (hb : PD X b ρ M (.int i)) (hz : t.length ≤ sizeLine) (h : atI t.cps.toList i = some c) (hs : PlainIx b := by exact fun _ _ => rfl) : PD X (.Subscript a b pos) ρ M (.str ⟨#[c]⟩) := pd_ix ix_str (rd_ixS hz h) ha hb hs
/-- a slice's bound -/
structure POD (X : Cx) (e : Option Expr) (ρ : Env) (M : Mem) (o : Option Int) : Prop where
  ex : ∃ t, PO X e t ∧ ∀ (Hs H : Hp) (σ : L2.St) (Q : Option Int → Hp → Prop), RelM X.K Hs H M → EnvR X.K Hs σ ρ → (∀ Hs' H', Grow Hs H Hs' H' → Q o H') → t σ H Q
theorem pod_none : POD X none ρ M none := ⟨_, po_none, fun Hs H σ Q i _ k => k Hs H (.refl i)⟩
theorem pod_some {i : Int} (h : PD X e ρ M (.int i)) : POD X (some e) ρ M (some i) := ⟨_, po_some pe_w, fun Hs H σ Q s r k => h.run Hs H σ _ s r fun v Hs1 H1 g1 p1 => ⟨i, dp_int p1, k Hs1 H1 g1⟩⟩
def cutD {α : Type} (xs : List α) (lo hi : Option Int) : List α := (xs.drop (HT.sIx xs.length 0 lo)).take (HT.sIx xs.length xs.length hi - HT.sIx xs.length 0 lo)
def SD (K : Fg) (r : V → Option Int → Option Int → Hp → VK → Prop) (x : D) (lo hi : Option Int) (d : D) : Prop := ∀ (Hs H : Hp) (v : V) (Q : VK), Same Hs H → Dq K Hs v x → (∀ z Hs' H', Grow Hs H Hs' H' → Dq K Hs' z d → Q z H') → r v lo hi H Q
theorem pd_slice {r : V → Option Int → Option Int → Hp → VK → Prop} {lo hi : Option Expr} {l h : Option Int} {p2 : Pos} (hr : L2.SlR X r) (hd : SD X.K r x l h d) (ha : PD X e ρ M x) (hl : POD X lo ρ M l) (hh : POD X hi ρ M h) : PD X (.Subscript e (.Slice lo hi none p2) pos) ρ M d := by
  obtain ⟨tl, el, rl⟩ := hl.ex
  obtain ⟨th, eh, rh⟩ := hh.ex
  exact pd_of (pe_slice hr pe_w el eh) fun Hs H σ Q i q k => ha.run Hs H σ _ i q fun v Hs1 H1 g1 p1 => rl Hs1 H1 σ _ (i.grow g1) (q.mono g1.s) fun Hs2 H2 g2 => rh Hs2 H2 σ _ (i.grow (g1.trans g2)) (q.mono (g1.trans g2).s) fun Hs3 H3 g3 =>
    hd Hs3 H3 v Q g3.i (dp_mono (g2.trans g3).s p1) fun z Hs4 H4 g4 p4 => k z Hs4 H4 ((g1.trans g2).trans (g3.trans g4)) p4
theorem sd_tup {K : Fg} {l h : Option Int} : SD K (rSlF K) (.tuple ds) l h (.tuple (cutD ds l h)) := fun Hs H v Q s p k => by
  obtain ⟨a, vs, rfl, ha, pa⟩ := dp_tup p
  refine ⟨a, vs, rfl, (ha.mono s).sq, fun hw => ?_, fun hw p o hp ho => ?_⟩
  · have e : cutD ds l h = ds := by
      unfold cutD
      rw [pa.len] at hw
      rw [hw.1, hw.2, List.drop_zero, Nat.sub_zero]
      exact List.take_length
    rw [e] at k
    exact k _ Hs H (.refl s) (.tup ha pa)
  · have e : DqAll K Hs (cutV vs l h) (cutD ds l h) := by
      unfold cutV cutD
      rw [pa.len]
      exact (pa.drop _).take _
    exact k _ _ _ (.new s hp) (.tup (.of upd_same ho) (dpAll_mono (same_upd (s.free hp)) e))
theorem sd_lst {K : Fg} {l h : Option Int} : SD K (rSlL K) (.list ds) l h (.list (cutD ds l h)) := fun Hs H v Q s p k => by
  obtain ⟨a, vs, rfl, ha, pa⟩ := dp_lst p
  refine ⟨a, vs, rfl, s.seq ha, fun p hp => ?_⟩
  have e : DqAll K Hs (cutV vs l h) (cutD ds l h) := by
    unfold cutV cutD
    rw [pa.len]
    exact (pa.drop _).take _
  exact k _ _ _ (.new s hp) (.lst (.of upd_same) (dpAll_mono (same_upd (s.free hp)) e))
theorem sd_str {K : Fg} {l h : Option Int} {t : Str} (hz : t.length ≤ sizeLine) : SD K rSlS (.str t) l h (.str (cutS t l h)) := fun Hs H v Q s p k => ⟨t, dp_str p, hz, k _ Hs H (.refl s) (.str _)⟩
theorem pd_slT {lo hi : Option Expr} {l h : Option Int} {p2 : Pos} (ha : PD X e ρ M (.tuple ds)) (hl : POD X lo ρ M l) (hh : POD X hi ρ M h) : PD X (.Subscript e (.Slice lo hi none p2) pos) ρ M (.tuple (cutD ds l h)) := pd_slice sl_tupF sd_tup ha hl hh
theorem pd_slL {lo hi : Option Expr} {l h : Option Int} {p2 : Pos} (ha : PD X e ρ M (.list ds)) (hl : POD X lo ρ M l) (hh : POD X hi ρ M h) : PD X (.Subscript e (.Slice lo hi none p2) pos) ρ M (.list (cutD ds l h)) := pd_slice sl_list sd_lst ha hl hh
theorem pd_slS {lo hi : Option Expr} {l h : Option Int} {p2 : Pos} {t : Str} (ha : PD X e ρ M (.str t)) (hl : POD X lo ρ M l) (hh : POD X hi ρ M h) (hz : t.length ≤ sizeLine) : PD X (.Subscript e (.Slice lo hi none p2) pos) ρ M (.str (cutS t l h)) := pd_slice sl_str (sd_str hz) ha hl hh
theorem pd_catT {xs ys : List D} (ha : PD X a ρ M (.tuple xs)) (hb : PD X b ρ M (.tuple ys)) (hz : xs.length + ys.length ≤ sizeLine) : PD X (.BinOp a .Add b pos) ρ M (.tuple (xs ++ ys)) := pd_op op_catF (fun Hs H v u Q s p q k => by
  obtain ⟨a, vs, rfl, ha, pa⟩ := dp_tup p
  obtain ⟨b, us, rfl, hb, pb⟩ := dp_tup q
  refine ⟨a, b, vs, us, rfl, rfl, (ha.mono s).sq, (hb.mono s).sq, by rw [pa.len, pb.len]; exact hz, fun z => ?_, fun z1 z2 => ?_, fun z1 z2 p o hp ho => ?_⟩
  · subst z
    cases pa
    exact k _ Hs H (.refl s) (.tup hb pb)
  · subst z2
    cases pb
    rw [List.append_nil] at k
    exact k _ Hs H (.refl s) (.tup ha pa)
  · exact k _ _ _ (.new s hp) (.tup (.of upd_same ho) (dpAll_mono (same_upd (s.free hp)) (pa.app pb)))) ha hb
/-- lists, wherever they lie -/
def rCatL (K : Fg) : R2 := fun x y H Q => ∃ l b xs zs, x = .ref l ∧ y = .ref b ∧ SqL K H l xs ∧ SqL K H b zs ∧ xs.length + zs.length ≤ sizeLine ∧ ∀ p, H p = none → Q (.ref p) (upd H p (.lst (xs ++ zs)))
theorem op_catL : OpR X (binaryOp .Add) (rCatL X.K) := by
  intro pins s σ H x y v u Q I rx ry h
  obtain ⟨l, b, xs, zs, rfl, rfl, hH, hB, hz, q⟩ := h
  cases rx
  cases ry
  obtain ⟨its, r, ⟨⟨cls, dd, data, sl⟩, n, ho, hc, _, hd⟩, z⟩ := I.list hH
  obtain ⟨its2, r2, ⟨⟨cls2, dd2, data2, sl2⟩, n2, ho2, hc2, _, hd2⟩, z2⟩ := I.list hB
  simp only at hc hd hc2 hd2
  subst hc hd hc2 hd2
  have h1 := r.length
  have h2 := r2.length
  have ea : its.toArray ++ its2.toArray = (its ++ its2).toArray := by simp
  refine PySem.concat_meets ⟨_, ho, rfl⟩ ⟨_, ho2, rfl⟩ PySem.noFill_list_add PySem.seq_list_add PySem.F.slot_list_add PySem.F.entry_list_add (PySem.F.args_list_add_2 _ _) (PyProof.Rows.list_addW l b its.toArray its2.toArray n n2 dd dd2 sl sl2 (by simp; omega)) ⟨ho, ho2, ?_⟩
  rw [ea]
  exact ⟨.ref _, _, I.lnew (t' := s.toks) (r.append r2) (by rw [List.length_append]; omega), rfl, q _ I.fresh⟩
theorem pd_catL {xs ys : List D} (ha : PD X a ρ M (.list xs)) (hb : PD X b ρ M (.list ys)) (hz : xs.length + ys.length ≤ sizeLine) : PD X (.BinOp a .Add b pos) ρ M (.list (xs ++ ys)) := pd_op op_catL (fun Hs H v u Q s p q k => by
  obtain ⟨a, vs, rfl, ha, pa⟩ := dp_lst p
  obtain ⟨b, us, rfl, hb, pb⟩ := dp_lst q
  exact ⟨a, b, vs, us, rfl, rfl, s.seq ha, s.seq hb, by rw [pa.len, pb.len]; exact hz, fun p hp => k _ _ _ (.new s hp) (.lst (.of upd_same) (dpAll_mono (same_upd (s.free hp)) (pa.app pb)))⟩) ha hb
theorem pd_addS {s t : Str} (ha : PD X a ρ M (.str s)) (hb : PD X b ρ M (.str t)) (hz : s.length + t.length ≤ sizeLine) : PD X (.BinOp a .Add b pos) ρ M (.str (s ++ t)) := pd_op op_add_str (fun Hs H v u Q i p q k => ⟨s, t, dp_str p, dp_str q, hz, k _ Hs H (.refl i) (.str _)⟩) ha hb
/-! ### calls of built-ins -/
theorem pd_callB {n : Str} {p : Pos} {id : String} {r : List V → Hp → VK → Prop} (hc : CallR X (.builtin id) r) (hr : CD X.K r ds d) (hg : Gl X n) (hm : X.mg n = none) (hv : bootBuiltins n = some (.builtin id)) (ha : PDs X (e :: es) ρ M ds) (hn : n ≠ "__name__" := by decide) (hdb : (n == ("__debug__" : Str)) = false := by decide)
    (he : starEach (e :: es) X.env = (false, eval e X.env) :: starEach es X.env := by rfl) (hpl : (backTo pos (starEach es X.env)).any (·.1) = false := by rfl) : PD X (.Call (.Name n p) (e :: es) [] pos) ρ M d :=
  pd_of (pe_callB hc hg hm hv pa_w hn hdb he hpl) fun Hs H σ Q i q k => ha.run Hs H σ _ i q fun vs Hs1 H1 g1 p1 => hr Hs1 H1 vs Q g1.i p1 fun z Hs2 H2 g2 p2 => k z Hs2 H2 (g1.trans g2) p2
theorem pd_callTy {n : Str} {p : Pos} {T : String} {r : List V → Hp → VK → Prop} (hc : CallR X (.type T) r) (hr : CD X.K r ds d) (hg : Gl X n) (hm : X.mg n = none) (hv : bootBuiltins n = some (.type T)) (ha : PDs X (e :: es) ρ M ds) (hn : n ≠ "__name__" := by decide) (hdb : (n == ("__debug__" : Str)) = false := by decide)
    (he : starEach (e :: es) X.env = (false, eval e X.env) :: starEach es X.env := by rfl) (hpl : (backTo pos (starEach es X.env)).any (·.1) = false := by rfl) : PD X (.Call (.Name n p) (e :: es) [] pos) ρ M d :=
  pd_of (pe_callTy hc hg hm hv pa_w hn hdb he hpl) fun Hs H σ Q i q k => ha.run Hs H σ _ i q fun vs Hs1 H1 g1 p1 => hr Hs1 H1 vs Q g1.i p1 fun z Hs2 H2 g2 p2 => k z Hs2 H2 (g1.trans g2) p2
/-- isinstance -/
def tyN : D → String
  | .none => "NoneType" | .bool _ => "bool" | .int _ => "int" | .str _ => "str" | .list _ => "list" | .tuple _ => "tuple" | .dict _ => "dict"
theorem tyx_of {K : Fg} {H : Hp} {v : V} (p : Dq K H v d) : TyX K H v (.type (tyN d)) := by
  cases p with
  | non => exact .base .non
  | bl b => exact .base (.bl b)
  | int i => exact .base (.int i)
  | str x => exact .base (.str x)
  | lst h a =>
    rcases h with (h | ⟨o, h⟩) | ⟨o, its, n, hk, hc, _⟩
    · exact .base (.lst h)
    · exact .base (.frz h)
    · exact .kList hk hc
  | tup h a =>
    rcases h with ⟨o, h, _⟩ | ⟨o, its, n, hk, hc, _⟩
    · exact .fTuple h
    · exact .kTuple hk hc
  | dct h => exact .base (.dK h)
theorem pd_isi {T : String} {n : Str} {p p2 : Pos} {u : Bool} (hg : Gl X "isinstance") (hm : X.mg "isinstance" = none) (hgT : Gl X n) (hmT : X.mg n = none) (hv : bootBuiltins n = some (.type T)) (ha : PD X e ρ M d) (hk : kitB (tyN d) T = some u)
    (hs : starEach [e, .Name n p2] X.env = (false, eval e X.env) :: starEach [.Name n p2] X.env := by rfl) (hs2 : starEach [.Name n p2] X.env = (false, eval (.Name n p2) X.env) :: starEach [] X.env := by rfl) (hn : n ≠ "__name__" := by decide) (hd : (n == ("__debug__" : Str)) = false := by decide)
    (hpl : (backTo pos (starEach [.Name n p2] X.env)).any (·.1) = false := by rfl) : PD X (.Call (.Name "isinstance" p) [e, .Name n p2] [] pos) ρ M (.bool u) :=
  pd_of (pe_callB call_isi hg hm (by decide +kernel) (pa_cons pe_w (pa_cons (pe_bltn (v := .ty T) hgT hmT hv rfl hn hd) pa_nil hs2) hs) (by decide) (by decide) hs hpl) fun Hs H σ Q i q k =>
    ha.run Hs H σ _ i q fun v Hs1 H1 g1 p1 => ⟨v, .ty T, _, _, u, rfl, .ty T, tyx_of (dp_mono g1.i p1), kit_ty hk, k _ Hs1 H1 g1 (.bl _)⟩
/-- len, tuple(..), list(..), all(..) -/
theorem cd_lenT {K : Fg} : CD K (fun xs H Q => ∃ p ys, xs = [.ref p] ∧ (SqL K H p ys ∨ SqT K H p ys) ∧ Q (.int ys.length) H) [.tuple ds] (.int ds.length) := fun Hs H vs Q s p k => by
  cases p with
  | cons p1 p2 =>
    cases p2
    obtain ⟨a, us, rfl, ha, pa⟩ := dp_tup p1
    exact ⟨a, us, rfl, .inr ((ha.mono s).sq), by rw [pa.len]; exact k _ Hs H (.refl s) (.int _)⟩
theorem cd_lenL {K : Fg} : CD K (fun xs H Q => ∃ p ys, xs = [.ref p] ∧ (SqL K H p ys ∨ SqT K H p ys) ∧ Q (.int ys.length) H) [.list ds] (.int ds.length) := fun Hs H vs Q s p k => by
  cases p with
  | cons p1 p2 =>
    cases p2
    obtain ⟨a, us, rfl, ha, pa⟩ := dp_lst p1
    exact ⟨a, us, rfl, .inl (s.seq ha), by rw [pa.len]; exact k _ Hs H (.refl s) (.int _)⟩
theorem pd_lenT {p : Pos} (hg : Gl X "len") (hm : X.mg "len" = none) (ha : PD X e ρ M (.tuple ds)) (hs : starEach [e] X.env = (false, eval e X.env) :: starEach [] X.env := by rfl) : PD X (.Call (.Name "len" p) [e] [] pos) ρ M (.int ds.length) :=
  pd_callB call_len_seq cd_lenT hg hm PySem.boot_len (pds_cons ha pds_nil hs) (by decide) (by decide) hs
theorem pd_lenL {p : Pos} (hg : Gl X "len") (hm : X.mg "len" = none) (ha : PD X e ρ M (.list ds)) (hs : starEach [e] X.env = (false, eval e X.env) :: starEach [] X.env := by rfl) : PD X (.Call (.Name "len" p) [e] [] pos) ρ M (.int ds.length) :=
  pd_callB call_len_seq cd_lenL hg hm PySem.boot_len (pds_cons ha pds_nil hs) (by decide) (by decide) hs
theorem pd_lenS {p : Pos} {t : Str} (hg : Gl X "len") (hm : X.mg "len" = none) (ha : PD X e ρ M (.str t)) (hz : t.length ≤ sizeLine) (hs : starEach [e] X.env = (false, eval e X.env) :: starEach [] X.env := by rfl) : PD X (.Call (.Name "len" p) [e] [] pos) ρ M (.int t.length) :=
  pd_callB call_len_str (fun Hs H vs Q s p k => by
    cases p with
    | cons p1 p2 => cases p2; rw [dp_str p1]; exact ⟨t, rfl, hz, k _ Hs H (.refl s) (.int _)⟩) hg hm PySem.boot_len (pds_cons ha pds_nil hs) (by decide) (by decide) hs
theorem boot_tuple : bootBuiltins "tuple" = some (.type "tuple") := by decide +kernel
theorem boot_list : bootBuiltins "list" = some (.type "list") := by decide +kernel
theorem boot_all : bootBuiltins "all" = some (.builtin "all") := by decide +kernel
theorem pd_tupleL {p : Pos} (hg : Gl X "tuple") (hm : X.mg "tuple" = none) (ha : PD X e ρ M (.list ds)) (hs : starEach [e] X.env = (false, eval e X.env) :: starEach [] X.env := by rfl) : PD X (.Call (.Name "tuple" p) [e] [] pos) ρ M (.tuple ds) :=
  pd_callTy call_tupleF (fun Hs H vs Q s p k => by
    cases p with
    | cons p1 p2 =>
      cases p2
      obtain ⟨a, us, rfl, ha, pa⟩ := dp_lst p1
      exact ⟨a, us, rfl, .inl ⟨s.seq ha, fun l o hl ho => k _ _ _ (.new s hl) (.tup (.of upd_same ho) (dpAll_mono (same_upd (s.free hl)) pa))⟩⟩) hg hm boot_tuple (pds_cons ha pds_nil hs) (by decide) (by decide) hs
theorem pd_listT {p : Pos} (hg : Gl X "list") (hm : X.mg "list" = none) (ha : PD X e ρ M (.tuple ds)) (hs : starEach [e] X.env = (false, eval e X.env) :: starEach [] X.env := by rfl) : PD X (.Call (.Name "list" p) [e] [] pos) ρ M (.list ds) :=
  pd_callTy call_list_of (fun Hs H vs Q s p k => by
    cases p with
    | cons p1 p2 =>
      cases p2
      obtain ⟨a, us, rfl, ha, pa⟩ := dp_tup p1
      exact ⟨a, us, rfl, .inr ((ha.mono s).sq), fun l hl => k _ _ _ (.new s hl) (.lst (.of upd_same) (dpAll_mono (same_upd (s.free hl)) pa))⟩) hg hm boot_list (pds_cons ha pds_nil hs) (by decide) (by decide) hs
theorem pd_all {p : Pos} {bs : List Bool} (hc : X.calm = true) (hg : Gl X "all") (hm : X.mg "all" = none) (ha : PD X e ρ M (.list (bs.map .bool))) (hs : starEach [e] X.env = (false, eval e X.env) :: starEach [] X.env := by rfl) : PD X (.Call (.Name "all" p) [e] [] pos) ρ M (.bool (bs.all id)) :=
  pd_callB (cr_all hc) (fun Hs H vs Q s p k => by
    cases p with
    | cons p1 p2 =>
      cases p2
      obtain ⟨a, us, rfl, ha, pa⟩ := dp_lst p1
      exact ⟨a, bs, rfl, by rw [← dpAll_bls pa]; exact s.seq ha, k _ Hs H (.refl s) (.bl _)⟩) hg hm boot_all (pds_cons ha pds_nil hs) (by decide) (by decide) hs
end

/-! ### a def of the text, by data -/
def spD (K : Fg) (F : List D → D → Prop) : Sp := fun vs H Q _ => ∃ (Hs : Hp) (ds : List D) (d : D), Same Hs H ∧ DqAll K Hs vs ds ∧ F ds d ∧ ∀ v Hs' H', Grow Hs H Hs' H' → Dq K Hs' v d → Q v H'
structure DefD (P : Program) (w : World) (K : Fg) (mg : Str → Option Value) (base : Heap) (k : Nat) (x : Str) (ps : List Str) (F : List D → D → Prop) : Prop where
  ex : ∃ f fd, FnOk P w K mg base CX0 k f fd ps (spD K F) ∧ mg x = some (.ref f) ∧ PySem.W.keepIn K (.ref f) = true ∧ Binds K fd ps []
theorem DefD.imp {P : Program} {w : World} {K : Fg} {mg : Str → Option Value} {base : Heap} {k : Nat} {x : Str} {ps : List Str} {F G : List D → D → Prop} (h : DefD P w K mg base k x ps F) (i : ∀ ds d, G ds d → F ds d) : DefD P w K mg base k x ps G := by
  obtain ⟨f, fd, h1, h2, h3, h4⟩ := h.ex
  exact ⟨f, fd, h1.imp fun vs H Q E ⟨Hs, ds, d, a, b, c, k⟩ => ⟨Hs, ds, d, a, b, i _ _ c, k⟩, h2, h3, h4⟩
section
variable {X : Cx} {M : Mem} {e : Expr} {es : List Expr} {ρ : Env} {d : D} {ds : List D} {pos : Pos}
theorem pd_call {k : Nat} {x : Str} {ps : List Str} {F : List D → D → Prop} {p : Pos} (h : DefD X.prog X.w X.K X.mg X.base k x ps F) (hr : Room k X.A) (hg : Gl X x) (ha : PDs X (e :: es) ρ M ds) (hF : F ds d)
    (hdb : (x == ("__debug__" : Str)) = false := by decide) (he : starEach (e :: es) X.env = (false, eval e X.env) :: starEach es X.env := by rfl) (hpl : (backTo pos (starEach es X.env)).any (·.1) = false := by rfl) : PD X (.Call (.Name x p) (e :: es) [] pos) ρ M d := by
  obtain ⟨f, fd, F1, hm, hk, hb⟩ := h.ex
  exact pd_of (pe_call F1 hr hg hm hk hb .nil pass0 pa_w hdb he hpl) fun Hs H σ Q i q k => ha.run Hs H σ _ i q fun vs Hs1 H1 g1 p1 => ⟨Hs1, ds, d, g1.i, by rw [List.append_nil]; exact p1, hF, fun v Hs2 H2 g2 p2 => k v Hs2 H2 (g1.trans g2) p2⟩
end
end AB
namespace AB
open PySem L2
/-! ### what is walked, by data -/
/-- data, or a pair that a walk has just made -/
def DqW (K : Fg) (H : Hp) (v : V) (d : D) : Prop := Dq K H v d ∨ ∃ a vs ds, v = .ref a ∧ d = .tuple ds ∧ SqT K H a vs ∧ DqAll K H vs ds
def Dr : Bool → Fg → Hp → V → D → Prop
  | true => Dq
  | false => DqW
theorem Dr.w {S : Bool} {K : Fg} {H : Hp} {v : V} {d : D} (h : Dr S K H v d) : DqW K H v d := by
  cases S with
  | true => exact .inl h
  | false => exact h
theorem DqW.tup {K : Fg} {H : Hp} {v : V} {ds : List D} (h : DqW K H v (.tuple ds)) : ∃ a vs, v = .ref a ∧ SqT K H a vs ∧ DqAll K H vs ds := by
  rcases h with h | ⟨a, vs, es, e1, e2, e3, e4⟩
  · obtain ⟨a, vs, e, h1, h2⟩ := dp_tup h
    exact ⟨a, vs, e, h1.sq, h2⟩
  · cases e2; exact ⟨a, vs, e1, e3, e4⟩
structure WkD (S : Bool) (K : Fg) (J : It) (Hs0 : Hp) (ds : List D) : Prop where
  go : ∀ i H, Same Hs0 H → i < ds.length → J.go i H
  stop : ∀ H, Same Hs0 H → J.stop ds.length H
  yld : ∀ i Hs H x H' d, Same Hs0 Hs → Same Hs H → ds[i]? = some d → J.yld i H x H' → ∃ Hs', Grow Hs H Hs' H' ∧ Dr S K Hs' x d
structure PID (X : Cx) (S : Bool) (tg iter : Expr) (ρ : Env) (M : Mem) (ds : List D) : Prop where
  run : ∀ (Hs H : Hp) (σ : L2.St) (R : It → Hp → Prop), RelM X.K Hs H M → EnvR X.K Hs σ ρ → (∀ J Hs' H', Grow Hs H Hs' H' → WkD S X.K J Hs' ds → R J H') → tWi X tg iter σ H R
section
variable {X : Cx} {S : Bool} {M : Mem} {tg iter e a : Expr} {ρ : Env} {ds : List D} {pos : Pos}
theorem pid_of {t : TI} (h : PI X tg iter t) (q : ∀ (Hs H : Hp) (σ : L2.St) (R : It → Hp → Prop), RelM X.K Hs H M → EnvR X.K Hs σ ρ → (∀ J Hs' H', Grow Hs H Hs' H' → WkD S X.K J Hs' ds → R J H') → t σ H R) : PID X S tg iter ρ M ds :=
  ⟨fun Hs H σ R i r k => PI.w h (q Hs H σ R i r k)⟩
theorem wkd_tup {K : Fg} {Hs : Hp} {a : Addr} {vs : List V} (h : SqT K Hs a vs) (p : DqAll K Hs vs ds) : WkD true K (Itt K a) Hs ds where
  go := fun i H s hi => by
    have hl : i < vs.length := by rw [p.len]; exact hi
    exact ⟨vs, vs[i], sqT_mono s h, List.getElem?_eq_getElem hl⟩
  stop := fun H s => ⟨vs, sqT_mono s h, by rw [p.len]; exact Nat.le_refl _⟩
  yld := fun i Hs1 H x H' d s1 s2 e y => by
    obtain ⟨rfl, y⟩ := y
    obtain ⟨v, e1, e2⟩ := p.get e
    have := y vs (sqT_mono (s1.trans s2) h)
    rw [e1] at this
    cases this
    exact ⟨Hs1, .refl s2, dp_mono s1 e2⟩
theorem wkd_lst {K : Fg} {Hs : Hp} {a : Addr} {vs : List V} (h : SqL K Hs a vs) (p : DqAll K Hs vs ds) : WkD true K (Itl K a) Hs ds where
  go := fun i H s hi => by
    have hl : i < vs.length := by rw [p.len]; exact hi
    exact ⟨vs, vs[i], s.seq h, List.getElem?_eq_getElem hl⟩
  stop := fun H s => ⟨vs, s.seq h, by rw [p.len]; exact Nat.le_refl _⟩
  yld := fun i Hs1 H x H' d s1 s2 e y => by
    obtain ⟨rfl, y⟩ := y
    obtain ⟨v, e1, e2⟩ := p.get e
    have := y vs ((s1.trans s2).seq h)
    rw [e1] at this
    cases this
    exact ⟨Hs1, .refl s2, dp_mono s1 e2⟩
theorem pid_tup (h : PD X iter ρ M (.tuple ds)) : PID X true tg iter ρ M ds := pid_of (pi_tup pe_w) fun Hs H σ R i r k => h.run Hs H σ _ i r fun v Hs1 H1 g1 p1 => by
  obtain ⟨a, vs, rfl, ha, pa⟩ := dp_tup p1
  exact ⟨a, rfl, ⟨vs, sqT_mono g1.i ha.sq⟩, k _ Hs1 H1 g1 (wkd_tup ha.sq pa)⟩
theorem pid_lst (h : PD X iter ρ M (.list ds)) : PID X true tg iter ρ M ds := pid_of (pi_list pe_w) fun Hs H σ R i r k => h.run Hs H σ _ i r fun v Hs1 H1 g1 p1 => by
  obtain ⟨a, vs, rfl, ha, pa⟩ := dp_lst p1
  exact ⟨a, rfl, ⟨vs, g1.i.seq ha⟩, k _ Hs1 H1 g1 (wkd_lst ha pa)⟩
/-- the ints lo, lo + 1, .. (n of them) -/
def rangeD (lo : Int) (n : Nat) : List D := (List.range n).map fun i => .int (lo + (i : Nat))
theorem rangeD_len {lo : Int} {n : Nat} : (rangeD lo n).length = n := by unfold rangeD; rw [List.length_map, List.length_range]
theorem rangeD_get {lo : Int} {n i : Nat} (h : i < n) : (rangeD lo n)[i]? = some (.int (lo + (i : Nat))) := by
  unfold rangeD
  rw [List.getElem?_map, List.getElem?_range h]; rfl
theorem wkd_rng {K : Fg} {Hs : Hp} {lo : Int} {n : Nat} : WkD true K (Itr lo n) Hs (rangeD lo n) where
  go := fun i H s hi => by rw [rangeD_len] at hi; exact hi
  stop := fun H s => by rw [rangeD_len]; exact Nat.le_refl _
  yld := fun i Hs1 H x H' d s1 s2 e y => by
    obtain ⟨rfl, rfl⟩ := y
    have hi : i < n := by
      have := (List.getElem?_eq_some_iff.mp e).1
      rwa [rangeD_len] at this
    rw [rangeD_get hi] at e
    cases e
    exact ⟨Hs1, .refl s2, .int _⟩
theorem pid_rng1 {p : Pos} {n : Int} (hg : Gl X "range") (hm : X.mg "range" = none) (h : PD X a ρ M (.int n)) (hn : -(2 ^ 62) ≤ n ∧ n < 2 ^ 62) (hs : starEach [a] X.env = [(false, eval a X.env)] := by rfl) : PID X true tg (.Call (.Name "range" p) [a] [] pos) ρ M (rangeD 0 n.toNat) :=
  pid_of (pi_range1 hg hm (pa_cons pe_w pa_nil hs) hs) fun Hs H σ R i r k => h.run Hs H σ _ i r fun v Hs1 H1 g1 p1 => ⟨n, by rw [dp_int p1], hn.1, hn.2, k _ Hs1 H1 g1 wkd_rng⟩
theorem pid_rng2 {p : Pos} {b : Expr} {m n : Int} (hg : Gl X "range") (hm : X.mg "range" = none) (h : PD X a ρ M (.int m)) (h' : PD X b ρ M (.int n)) (hb : -(2 ^ 62) ≤ m ∧ m < 2 ^ 62 ∧ -(2 ^ 62) ≤ n ∧ n < 2 ^ 62) (hs : starEach [a, b] X.env = [(false, eval a X.env), (false, eval b X.env)] := by rfl) (hs2 : starEach [b] X.env = [(false, eval b X.env)] := by rfl) :
    PID X true tg (.Call (.Name "range" p) [a, b] [] pos) ρ M (rangeD m (n - m).toNat) :=
  pid_of (pi_range2 hg hm (pa_cons pe_w (pa_cons pe_w pa_nil hs2) (hs.trans (by rw [hs2]))) hs hs2) fun Hs H σ R i r k => h.run Hs H σ _ i r fun v Hs1 H1 g1 p1 => h'.run Hs1 H1 σ _ (i.grow g1) (r.mono g1.s) fun v2 Hs2 H2 g2 p2 => ⟨m, n, by rw [dp_int p1, dp_int p2], hb, k _ Hs2 H2 (g1.trans g2) wkd_rng⟩
/-- the signs of a text -/
def signsD (z : Str) : List D := z.cps.toList.map fun c => .str ⟨#[c]⟩
theorem wkd_str {K : Fg} {Hs : Hp} {z : Str} : WkD true K (Its z) Hs (signsD z) where
  go := fun i H s hi => by unfold signsD at hi; rw [List.length_map, Array.length_toList] at hi; exact hi
  stop := fun H s => by unfold signsD; rw [List.length_map, Array.length_toList]; exact Nat.le_refl _
  yld := fun i Hs1 H x H' d s1 s2 e y => by
    obtain ⟨rfl, c, e1, rfl⟩ := y
    unfold signsD at e
    rw [List.getElem?_map, Array.getElem?_toList, e1] at e
    cases e
    exact ⟨Hs1, .refl s2, .str _⟩
theorem pid_str {z : Str} (h : PD X iter ρ M (.str z)) : PID X true tg iter ρ M (signsD z) := pid_of (pi_str pe_w) fun Hs H σ R i r k => h.run Hs H σ _ i r fun v Hs1 H1 g1 p1 => ⟨z, dp_str p1, k _ Hs1 H1 g1 wkd_str⟩
/-- pairs that a zip of two tuples, of two lists makes -/
def zipD (xs ys : List D) : List D := (xs.zip ys).map fun p => .tuple [p.1, p.2]
theorem zipD_get {xs ys : List D} {i : Nat} {d : D} (h : (zipD xs ys)[i]? = some d) : ∃ x y, xs[i]? = some x ∧ ys[i]? = some y ∧ d = .tuple [x, y] := by
  unfold zipD at h
  rw [List.getElem?_map] at h
  cases q : (xs.zip ys)[i]? with
  | none => rw [q] at h; cases h
  | some p =>
    rw [q] at h
    cases h
    obtain ⟨h1, h2⟩ := List.getElem?_zip_eq_some.mp q
    exact ⟨_, _, h1, h2, rfl⟩
theorem zipD_len {xs ys : List D} : (zipD xs ys).length = min xs.length ys.length := by unfold zipD; rw [List.length_map, List.length_zip]
theorem pair_new {K : Fg} {Hs H : Hp} {T : Addr} {v w : V} {x y : D} (i : Same Hs H) (hT : H T = none) (p : Dq K Hs v x) (q : Dq K Hs w y) : Grow Hs H (upd Hs T (.tup [v, w])) (upd H T (.tup [v, w])) ∧ Dr false K (upd Hs T (.tup [v, w])) (.ref T) (.tuple [x, y]) :=
  ⟨.new i hT, .inr ⟨_, _, _, rfl, rfl, SqT.of upd_same, dpAll_mono (same_upd (i.free hT)) (.cons p (.cons q .nil))⟩⟩
theorem wkd_zipT {K : Fg} {Hs : Hp} {a b : Addr} {vs us : List V} {xs ys : List D} (h : SqT K Hs a vs) (p : DqAll K Hs vs xs) (h' : SqT K Hs b us) (p' : DqAll K Hs us ys) : WkD false K (RZ.ItzT K a b) Hs (zipD xs ys) where
  go := fun i H s hi => by
    rw [zipD_len] at hi
    have h1 : i < vs.length := by rw [p.len]; omega
    have h2 : i < us.length := by rw [p'.len]; omega
    exact ⟨vs, us, vs[i], us[i], sqT_mono s h, sqT_mono s h', List.getElem?_eq_getElem h1, List.getElem?_eq_getElem h2⟩
  stop := fun H s => ⟨vs, us, sqT_mono s h, sqT_mono s h', by rw [zipD_len, p.len, p'.len]; omega⟩
  yld := fun i Hs1 H x H' d s1 s2 e y => by
    obtain ⟨T, v, w, rfl, hT, rfl, y1, y2⟩ := y
    obtain ⟨x, y, e1, e2, rfl⟩ := zipD_get e
    obtain ⟨v', f1, f2⟩ := p.get e1
    obtain ⟨w', k1, k2⟩ := p'.get e2
    have z1 := y1 vs (sqT_mono (s1.trans s2) h)
    have z2 := y2 us (sqT_mono (s1.trans s2) h')
    rw [f1] at z1; cases z1
    rw [k1] at z2; cases z2
    exact ⟨_, pair_new s2 hT (dp_mono s1 f2) (dp_mono s1 k2)⟩
theorem wkd_zipL {K : Fg} {Hs : Hp} {a b : Addr} {vs us : List V} {xs ys : List D} (h : SqL K Hs a vs) (p : DqAll K Hs vs xs) (h' : SqL K Hs b us) (p' : DqAll K Hs us ys) : WkD false K (Itz K a b) Hs (zipD xs ys) where
  go := fun i H s hi => by
    rw [zipD_len] at hi
    have h1 : i < vs.length := by rw [p.len]; omega
    have h2 : i < us.length := by rw [p'.len]; omega
    exact ⟨vs, us, vs[i], us[i], s.seq h, s.seq h', List.getElem?_eq_getElem h1, List.getElem?_eq_getElem h2⟩
  stop := fun H s => ⟨vs, us, s.seq h, s.seq h', by rw [zipD_len, p.len, p'.len]; omega⟩
  yld := fun i Hs1 H x H' d s1 s2 e y => by
    obtain ⟨T, v, w, rfl, hT, rfl, y1, y2⟩ := y
    obtain ⟨x, y, e1, e2, rfl⟩ := zipD_get e
    obtain ⟨v', f1, f2⟩ := p.get e1
    obtain ⟨w', k1, k2⟩ := p'.get e2
    have z1 := y1 vs ((s1.trans s2).seq h)
    have z2 := y2 us ((s1.trans s2).seq h')
    rw [f1] at z1; cases z1
    rw [k1] at z2; cases z2
    exact ⟨_, pair_new s2 hT (dp_mono s1 f2) (dp_mono s1 k2)⟩
theorem pid_zipT {p tpos : Pos} {elts : List Expr} {kk : Nat} {b : Expr} {xs ys : List D} (hg : Gl X "zip") (hm : X.mg "zip" = none) (h : PD X a ρ M (.tuple xs)) (h' : PD X b ρ M (.tuple ys)) (hs : starEach [a, b] X.env = (false, eval a X.env) :: starEach [b] X.env := by rfl) (hs2 : starEach [b] X.env = (false, eval b X.env) :: starEach [] X.env := by rfl) (hpl : (backTo pos (starEach [b] X.env)).any (·.1) = false := by rfl) :
    PID X false (.Tuple elts kk tpos) (.Call (.Name "zip" p) [a, b] [] pos) ρ M (zipD xs ys) :=
  pid_of (RZ.pi_zipA hg hm (pa_cons pe_w (pa_cons pe_w pa_nil hs2) hs) hs hpl) fun Hs H σ R i r k => h.run Hs H σ _ i r fun v Hs1 H1 g1 p1 => h'.run Hs1 H1 σ _ (i.grow g1) (r.mono g1.s) fun v2 Hs2 H2 g2 p2 => by
    obtain ⟨a1, vs, rfl, ha, pa⟩ := dp_tup (dp_mono g2.s p1)
    obtain ⟨b1, us, rfl, hb, pb⟩ := dp_tup p2
    exact ⟨a1, b1, vs, us, rfl, .inr ⟨sqT_mono g2.i ha.sq, sqT_mono g2.i hb.sq, k _ Hs2 H2 (g1.trans g2) (wkd_zipT ha.sq pa hb.sq pb)⟩⟩
theorem pid_zipL {p tpos : Pos} {elts : List Expr} {kk : Nat} {b : Expr} {xs ys : List D} (hg : Gl X "zip") (hm : X.mg "zip" = none) (h : PD X a ρ M (.list xs)) (h' : PD X b ρ M (.list ys)) (hs : starEach [a, b] X.env = (false, eval a X.env) :: starEach [b] X.env := by rfl) (hs2 : starEach [b] X.env = (false, eval b X.env) :: starEach [] X.env := by rfl) (hpl : (backTo pos (starEach [b] X.env)).any (·.1) = false := by rfl) :
    PID X false (.Tuple elts kk tpos) (.Call (.Name "zip" p) [a, b] [] pos) ρ M (zipD xs ys) :=
  pid_of (RZ.pi_zipA hg hm (pa_cons pe_w (pa_cons pe_w pa_nil hs2) hs) hs hpl) fun Hs H σ R i r k => h.run Hs H σ _ i r fun v Hs1 H1 g1 p1 => h'.run Hs1 H1 σ _ (i.grow g1) (r.mono g1.s) fun v2 Hs2 H2 g2 p2 => by
    obtain ⟨a1, vs, rfl, ha, pa⟩ := dp_lst (dp_mono g2.s p1)
    obtain ⟨b1, us, rfl, hb, pb⟩ := dp_lst p2
    exact ⟨a1, b1, vs, us, rfl, .inl ⟨g2.i.seq ha, g2.i.seq hb, k _ Hs2 H2 (g1.trans g2) (wkd_zipL ha pa hb pb)⟩⟩
end

/-! ### targets -/
/-- the target takes d: the slots behind; ts the slots that it may change -/
structure PGD (X : Cx) (S : Bool) (tg : Expr) (d : D) (ρ ρ' : Env) (ts : List Nat) : Prop where
  run : ∀ (Hs H : Hp) (σ : L2.St) (v : V) (Q : L2.St → Hp → Prop), Same Hs H → EnvR X.K Hs σ ρ → Dr S X.K Hs v d → (∀ σ', EnvR X.K Hs σ' ρ' → (σ'.length = σ.length ∧ ∀ (j : Nat), j ∉ ts → σ'[j]? = σ[j]?) → Q σ' H) → tWg X tg v σ H Q
structure PGDs (X : Cx) (tgs : List Expr) (ds : List D) (ρ ρ' : Env) (ts : List Nat) : Prop where
  run : ∀ (Hs H : Hp) (σ : L2.St) (vs : List V) (Q : L2.St → Hp → Prop), Same Hs H → EnvR X.K Hs σ ρ → DqAll X.K Hs vs ds → (∀ σ', EnvR X.K Hs σ' ρ' → (σ'.length = σ.length ∧ ∀ (j : Nat), j ∉ ts → σ'[j]? = σ[j]?) → Q σ' H) → ∀ pins s us, Inv X pins σ H s → Vals vs us →
    wpAny (model X.prog X.w) X.A (assignInOrder ((assignEach tgs X.env).map (·.2)) us) (fun _ s' => ∃ σ' H', Inv X pins σ' H' s' ∧ Q σ' H') X.xe s
section
variable {X : Cx} {M : Mem} {tg e : Expr} {tgs : List Expr} {ρ ρ1 ρ2 : Env} {d : D} {ds : List D} {pos : Pos} {ts us : List Nat}
theorem pgd_name (i : Nat) {x : Str} (hN : X.N.Nodup) (hi : X.N[i]? = some x := by rfl) (hx : Loc X.env.scope x := by first | exact Or.inl rfl | exact Or.inr rfl) (hf : X.fn x = true ∨ X.env.scope.names.lookup x = some .local := by first | exact .inl rfl | exact .inr rfl | assumption) : PGD X true (.Name x pos) d ρ (ρ.set i (.d d)) [i] :=
  ⟨fun Hs H σ v Q s r p k => PG.w (pg_name hN hi hx hf) (k _ (r.set i ⟨v, rfl, p⟩) ⟨List.length_set, fun j hj => List.getElem?_set_ne (fun z => hj (by simp [z]))⟩)⟩
theorem pgds_nil : PGDs X [] [] ρ ρ [] := ⟨fun Hs H σ vs Q s r p k pins st us I rv => by
  cases p
  exact pgs_nil.run pins st σ H [] us Q I rv ⟨rfl, k σ r ⟨rfl, fun _ _ => rfl⟩⟩⟩
theorem pgds_cons (h1 : PGD X true e d ρ ρ1 ts) (h2 : PGDs X tgs ds ρ1 ρ2 us) (hs : (assignEach (e :: tgs) X.env).map (·.2) = assign e X.env :: (assignEach tgs X.env).map (·.2) := by rfl) : PGDs X (e :: tgs) (d :: ds) ρ ρ2 (ts ++ us) :=
  ⟨fun Hs H σ vs Q s r p k pins st ws I rv => by
    cases p with
    | cons p1 p2 =>
      cases rv with
      | cons rv1 rv2 =>
        rw [hs]
        refine PyProof.Rows.assignInOrder_cons (thn (h1.run Hs H σ _ (fun σ' H' => H' = H ∧ EnvR X.K Hs σ' ρ1 ∧ (σ'.length = σ.length ∧ ∀ (j : Nat), j ∉ ts → σ'[j]? = σ[j]?)) s r p1 (fun σ' r' o => ⟨rfl, r', o⟩) pins st _ I rv1) fun _ s1 ⟨σ1, H1, I1, hH, r1, o1⟩ => ?_)
        subst hH
        exact h2.run Hs _ σ1 _ Q s r1 p2 (fun σ' r' o => k σ' r' ⟨o.1.trans o1.1, fun j hj => (o.2 j fun z => hj (List.mem_append_right _ z)).trans (o1.2 j fun z => hj (List.mem_append_left _ z))⟩) pins s1 _ I1 rv2⟩
theorem pgd_tup {S : Bool} {k n : Nat} (hc : X.calm = true) (h : PGDs X tgs ds ρ ρ1 ts) (hn : (assignEach tgs X.env).length = ds.length := by rfl) (hst : (assignEach tgs X.env).findIdx? (·.1) = none := by rfl) : PGD X S (.Tuple tgs k pos) (.tuple ds) ρ ρ1 ts :=
  ⟨fun Hs H σ v Q s r p q => by
    obtain ⟨a, vs, rfl, ha, pa⟩ := p.w.tup
    exact PG.w (pg_tup (X := X) (es := tgs) (t := fun ws σ H Q => ∀ pins s us, Inv X pins σ H s → Vals ws us → wpAny (model X.prog X.w) X.A (assignInOrder ((assignEach tgs X.env).map (·.2)) us) (fun _ s' => ∃ σ' H', Inv X pins σ' H' s' ∧ Q σ' H') X.xe s) (n := ds.length) hc ⟨fun pins s σ H vs us Q I rv h => h pins s us I rv⟩ hn hst)
      ⟨a, vs, rfl, sqT_mono s ha, pa.len, h.run Hs H σ vs Q s r pa q⟩⟩
end

/-! ### comprehensions -/
theorem wipe_same : ∀ (vs : List Nat) (σ σ' : L2.St), σ'.length = σ.length → (∀ j, j ∉ vs → σ'[j]? = σ[j]?) → L2.wipe σ' vs = L2.wipe σ vs := by
  intro vs σ σ' hl h
  apply List.ext_getElem?
  intro j
  have key : ∀ (vs : List Nat) (σ : L2.St) (j : Nat), (L2.wipe σ vs)[j]? = if j ∈ vs then (σ[j]?).map (fun _ => none) else σ[j]? := by
    intro vs σ j
    induction vs with
    | nil => simp [L2.wipe]
    | cons v vs ih =>
      unfold L2.wipe
      by_cases hv : v = j
      · subst hv
        rw [if_pos List.mem_cons_self]
        by_cases hlt : v < σ.length
        · rw [List.getElem?_set_self (by rw [wipe_length]; exact hlt), List.getElem?_eq_getElem hlt]; rfl
        · rw [List.getElem?_eq_none (by rw [List.length_set, wipe_length]; omega), List.getElem?_eq_none (by omega)]; rfl
      · rw [List.getElem?_set_ne hv, ih]
        have : (j ∈ v :: vs) ↔ j ∈ vs := by simp [Ne.symm hv]
        simp only [this]
  rw [key, key]
  split
  · by_cases hlt : j < σ.length
    · rw [List.getElem?_eq_getElem hlt, List.getElem?_eq_getElem (by omega)]; rfl
    · rw [List.getElem?_eq_none (by omega), List.getElem?_eq_none (by omega)]
  · rename_i hj
    exact h j hj
theorem wipe_wipe (vs : List Nat) (σ : L2.St) : L2.wipe (L2.wipe σ vs) vs = L2.wipe σ vs := by
  refine wipe_same vs σ _ (wipe_length σ vs) fun j hj => ?_
  have : ∀ vs : List Nat, j ∉ vs → (L2.wipe σ vs)[j]? = σ[j]? := by
    intro vs
    induction vs with
    | nil => intro _; rfl
    | cons v vs ih =>
      intro h
      unfold L2.wipe
      rw [List.getElem?_set_ne (fun z => h (by simp [z]))]
      exact ih fun z => h (List.mem_cons_of_mem _ z)
  exact this vs hj
/-- the tests of a comprehension -/
structure PTsD (X : Cx) (ifs : List Expr) (ρ : Env) (M : Mem) (b : Bool) : Prop where
  run : ∀ (Hs H : Hp) (σ : L2.St) (Q : Bool → Hp → Prop), RelM X.K Hs H M → EnvR X.K Hs σ ρ → (∀ Hs' H', Grow Hs H Hs' H' → Q b H') → ∀ pins s, Inv X pins σ H s → (∃ t, PTs X ifs t ∧ t σ H Q)
theorem ptsd_nil {X : Cx} {ρ : Env} {M : Mem} : PTsD X [] ρ M true := ⟨fun Hs H σ Q i r k pins s I => ⟨_, pts_nil, k Hs H (.refl i)⟩⟩
theorem ptsd_one {X : Cx} {ρ : Env} {M : Mem} {c : Expr} {b : Bool} (h : PTD X c ρ M b) : PTsD X [c] ρ M b := ⟨fun Hs H σ Q i r k pins s I => ⟨_, pts_one pt_w, h.run Hs H σ Q i r k⟩⟩
section
variable {X : Cx} {M : Mem} {elt tg iter : Expr} {ifs : List Expr} {scope : Scope} {pos : Pos} {ρ : Env} {items : List D}
abbrev Blk (X : Cx) (scope : Scope) (s : Shared) (H : Hp) (C : Addr) (cl : List (Str × Addr)) (fp : List Addr) : Cx := X.blk s H scope (compEnvC scope cl C X.env) fp
/-- what one turn of a comprehension does, by data: y = none where the test says no -/
structure Turn1 (X : Cx) (S : Bool) (scope : Scope) (tg : Expr) (ifs : List Expr) (elt : Expr) (ρ : Env) (M : Mem) (vs : List Nat) (d : D) (y : Option D) : Prop where
  ex : ∃ (ρ1 : Env) (ts : List Nat), (∀ t ∈ ts, t ∈ vs) ∧ ∀ s H C cl fp, PGD (Blk X scope s H C cl fp) S tg d (wipeE ρ vs) ρ1 ts ∧ PTsD (Blk X scope s H C cl fp) ifs ρ1 M y.isSome ∧ ∀ z, y = some z → PD (Blk X scope s H C cl fp) elt ρ1 M z
theorem filterMap_take {α β : Type} (f : α → Option β) (l : List α) (i : Nat) (a : α) (h : l[i]? = some a) : (l.take (i + 1)).filterMap f = (l.take i).filterMap f ++ (f a).toList := by
  rw [List.take_add_one, h, List.filterMap_append]
  show _ ++ List.filterMap f [a] = _
  cases q : f a <;> simp [q]
theorem filterMap_len {α β : Type} (f : α → Option β) (l : List α) : (l.filterMap f).length ≤ l.length := List.length_filterMap_le f l
abbrev lcG (X : Cx) (scope : Scope) (tg : Expr) : TG := fun v σ H Q => ∀ s H' C cl fp, tWg (Blk X scope s H' C cl fp) tg v σ H Q
abbrev lcT (X : Cx) (scope : Scope) (ifs : List Expr) : TT := fun σ H Q => ∀ s H' C cl fp pins st, Inv (Blk X scope s H' C cl fp) pins σ H st → (∃ t, PTs (Blk X scope s H' C cl fp) ifs t ∧ t σ H Q)
abbrev lcE (X : Cx) (scope : Scope) (elt : Expr) : TE := fun σ H Q => ∀ s H' C cl fp, tWe (Blk X scope s H' C cl fp) elt σ H Q
theorem lcG_ok (s : Shared) (H : Hp) (C : Addr) (cl : List (Str × Addr)) (fp : List Addr) : PG (X.blk s H scope (compEnvC scope cl C X.env) fp) tg (lcG X scope tg) := ⟨fun pins st σ H1 v u Q I r h => h s H C cl fp pins st u I r⟩
theorem lcT_ok (s : Shared) (H : Hp) (C : Addr) (cl : List (Str × Addr)) (fp : List Addr) : PTs (X.blk s H scope (compEnvC scope cl C X.env) fp) ifs (lcT X scope ifs) := ⟨fun pins st σ H1 Q I h => by
  obtain ⟨t, h1, h2⟩ := h s H C cl fp pins st I
  exact h1.run pins st σ H1 Q I h2⟩
theorem lcE_ok (s : Shared) (H : Hp) (C : Addr) (cl : List (Str × Addr)) (fp : List Addr) : PE (X.blk s H scope (compEnvC scope cl C X.env) fp) elt (lcE X scope elt) := ⟨fun pins st σ H1 Q I h => h s H C cl fp pins st I⟩
theorem lc_run {S : Bool} {own : List (Str × Nat)} (f : D → Option D) (hi : PID X S tg iter ρ M items) (hz : items.length ≤ 16777000)
    (ht : ∀ d, d ∈ items → Turn1 X S scope tg ifs elt ρ M (own.map (·.2)) d (f d)) (Hs H : Hp) (σ : L2.St) (Q : VK) (i : RelM X.K Hs H M) (r : EnvR X.K Hs σ ρ) (k : ∀ v Hs' H', Grow Hs H Hs' H' → Dq X.K Hs' v (.list (items.filterMap f)) → Q v H') :
    tLc (tWi X tg iter) (lcG X scope tg) (lcT X scope ifs) (lcE X scope elt) (own.map (·.2)) σ H Q := by
  refine hi.run Hs H σ _ i r fun J Hs1 H1 g1 wk Dl hD => ?_
  -- what stands behind i turns
  have i1 : RelM X.K Hs1 H1 M := i.grow g1
  have nM : ∀ b mo, M b = some mo → b ≠ Dl := fun b mo e z => by
    obtain ⟨_, o, h2, _⟩ := i1.m b mo e
    rw [z, hD] at h2; cases h2
  have rel : ∀ {Hs' H' : Hp} {o : HO}, RelM X.K Hs' H' M → Hs' Dl = none → RelM X.K Hs' (upd H' Dl o) M := fun {Hs' H' o} r n => ⟨fun b u e => by
    rw [upd_ne (ne_of_none e n)]; exact r.i b u e, fun b mo e => by
    obtain ⟨h1, u, h2, h3⟩ := r.m b mo e
    exact ⟨h1, u, by rw [upd_ne (nM b mo e)]; exact h2, h3⟩⟩
  let W : Nat → Nat → Hp → Prop := fun i m H' => m = items.length - i ∧ i ≤ items.length ∧ ∃ Hs' acc, Same Hs1 Hs' ∧ RelM X.K Hs' H' M ∧ Same H1 H' ∧ Hs' Dl = none ∧ (∀ a, Hs1 a = none → H1 a ≠ none → Hs' a = none) ∧ H' Dl = some (.lst acc) ∧ DqAll X.K Hs' acc ((items.take i).filterMap f)
  have w0 : W 0 items.length (upd H1 Dl (.lst [])) := ⟨by simp, Nat.zero_le _, Hs1, [], Same.refl _, rel i1 (g1.i.free hD), same_upd hD, g1.i.free hD, fun _ h _ => h, upd_same, by rw [List.take_zero]; exact .nil⟩
  refine ⟨W, ⟨_, w0⟩, ?_⟩
  rintro j m H' ⟨rfl, hj, Hs', acc, s1, s2, s3, n1, n2, e1, p1⟩
  by_cases hlt : j < items.length
  · refine .inr ⟨wk.go j H' (s1.trans s2.i) hlt, fun H'' => W (j + 1) (items.length - (j + 1)) H'', fun H'' w => ⟨_, by omega, w⟩, fun x H2 y => ?_⟩
    obtain ⟨d, hd⟩ : ∃ d, items[j]? = some d := ⟨_, List.getElem?_eq_getElem hlt⟩
    obtain ⟨Hs2, g2, p2⟩ := wk.yld j Hs' H' x H2 d s1 s2.i hd y
    obtain ⟨ρ1, ts, sub, T⟩ := (ht d (List.mem_of_getElem? hd)).ex
    have rw : EnvR X.K Hs2 (L2.wipe σ (own.map (·.2))) (wipeE ρ (own.map (·.2))) := ((r.mono g1.s).mono (s1.trans g2.s)).wipe _
    intro sA HA C cl fp
    refine (T sA HA C cl fp).1.run Hs2 H2 _ x _ g2.i rw p2 fun σ' r' o => ⟨?_, ?_⟩
    · rw [wipe_same (own.map (·.2)) (L2.wipe σ (own.map (·.2))) σ' o.1 fun j hj => o.2 j fun z => hj (sub j z), wipe_wipe]
    · intro sB HB C' cl' fp' pins st I
      obtain ⟨_, q2, q3⟩ := T sB HB C' cl' fp'
      have n3 : Hs2 Dl = none := g2.n Dl n1 (by rw [e1]; intro z; cases z)
      refine q2.run Hs2 H2 σ' _ (s2.grow g2) r' (fun Hs3 H3 g3 => ?_) pins st I
      have g23 := g2.trans g3
      cases hf : f d with
      | none =>
        refine iteF ⟨rfl, hlt, Hs3, acc, s1.trans g23.s, s2.grow g23, s3.trans g23.h, g23.n Dl n1 (by rw [e1]; intro z; cases z), fun a h1 h2 => g23.n a (n2 a h1 h2) fun z => h2 (s3.free z), g23.h _ _ e1, ?_⟩
        rw [filterMap_take f items j d hd, hf]
        show DqAll X.K Hs3 acc (_ ++ [])
        rw [List.append_nil]
        exact dpAll_mono g23.s p1
      | some z =>
        refine iteT ?_
        intro sC HC C2 cl2 fp2
        refine ((T sC HC C2 cl2 fp2).2.2 z hf).run Hs3 H3 σ' _ (s2.grow g23) (r'.mono g3.s) fun v Hs4 H4 g4 p4 => ?_
        have g24 := g23.trans g4
        have hne : H' Dl ≠ none := by rw [e1]; intro z; cases z
        have n4 : Hs4 Dl = none := g24.n Dl n1 hne
        have lacc : acc.length ≤ j := by
          rw [p1.len]
          exact Nat.le_trans (filterMap_len f _) (by rw [List.length_take]; omega)
        refine ⟨acc, g24.h _ _ e1, by have : sizeLine = 16777216 := rfl; omega, rfl, hlt, Hs4, acc ++ [v], s1.trans g24.s, rel (s2.grow g24) n4, fun b o e => ?_, n4, fun a h1 h2 => g24.n a (n2 a h1 h2) fun z => h2 (s3.free z), upd_same, ?_⟩
        · rw [upd_ne (ne_of_none e hD)]; exact g24.h b o (s3 b o e)
        · rw [filterMap_take f items j d hd, hf]
          exact (dpAll_mono g24.s p1).app (.cons p4 .nil)
  · have ej : j = items.length := by omega
    subst ej
    rw [List.take_length] at p1
    refine .inl ⟨wk.stop H' (s1.trans s2.i), k _ (upd Hs' Dl (.lst acc)) H' ⟨g1.h.trans s3, (g1.s.trans s1).trans (same_upd n1), fun b o e => ?_, fun a h1 h2 => ?_⟩ (.lst (.of upd_same) (dpAll_mono (same_upd n1) p1))⟩
    · by_cases hb : b = Dl
      · subst hb; rw [upd_same] at e; cases e; exact e1
      · rw [upd_ne hb] at e; exact s2.i b o e
    · have h3 : H1 a ≠ none := fun z => h2 (g1.h.free z)
      have hb : a ≠ Dl := fun z => h3 (z ▸ hD)
      rw [upd_ne hb]
      exact n2 a (g1.n a h1 h2) h3
theorem pd_lc {S : Bool} {own : List (Str × Nat)} (f : D → Option D) (hc : X.calm = true) (hN : X.N.Nodup) (ok : BlkOk X.N X.env.scope scope own) (hi : PID X S tg iter ρ M items) (hz : items.length ≤ 16777000)
    (ht : ∀ d, d ∈ items → Turn1 X S scope tg ifs elt ρ M (own.map (·.2)) d (f d)) (hs : ∀ x, foldedSetIterable iter X.env x = pure x := by intro _; rfl) : PD X (.ListComp elt [⟨tg, iter, ifs, 0⟩] scope pos) ρ M (.list (items.filterMap f)) :=
  pd_of (pe_lc hc hN pi_w ok lcG_ok lcT_ok lcE_ok hs) (lc_run f hi hz ht)
theorem PTsD.eq {X : Cx} {ρ : Env} {M : Mem} {b b' : Bool} (h : PTsD X ifs ρ M b) (e : b = b') : PTsD X ifs ρ M b' := e ▸ h
end
end AB
namespace AB
open PySem L2
open PySem.AutoSeq1 (wpAny_loadPart')
/-! ### enumerate of a tuple, of a text -/
theorem meets_enumT (l : Addr) (items : Array Value) (n : Nat) (dct : Option Addr) (sl : Array (Option Value)) :
    Meets (Builtin.«enumerate.__new__» ⟨[.type "enumerate", .ref l], []⟩) (fun _ R s => s.heap.get? l = some { cls := .type "tuple", dict := dct, data := .seq items n, slots := sl } ∧
      R (.ok (.ret (.ref (s.heap.push { cls := .type "tuple_iterator", data := .fields #[.ref l, .int 0 0] }).objs.size)))
        { s with heap := (s.heap.push { cls := .type "tuple_iterator", data := .fields #[.ref l, .int 0 0] }).push { cls := .type "enumerate", data := .fields #[.none, .bool false, .ref s.heap.objs.size, rawInt 0, .none, .none] } }) :=
  .of_wp fun prog w A R s h => by
    obtain ⟨hp, g, d, tk, os⟩ := s; obtain ⟨hl, h⟩ := h
    have hsub := sub_enumerate
    have hL : Heap.IsTuple (Shared.heap ⟨hp, g, d, tk, os⟩) l items := ⟨_, hl, rfl, n, rfl⟩
    wp_walk using wpAny_loadPart' hl
    refine wpAny_stack_any fun st => wpAny_pure ?_
    split
    · rename_i c _ _ _ _ _
      cases (c == Value.type "enumerate")
      · wp_walk using wpAny_loadPart' hl, wpAny_pyIter_tuple hL
        exact ⟨_, rfl, h⟩
      · wp_walk using wpAny_loadPart' hl, wpAny_pyIter_tuple hL
        exact ⟨_, rfl, h⟩
    · wp_walk using wpAny_loadPart' hl, wpAny_pyIter_tuple hL
      exact ⟨_, rfl, h⟩
section
variable {prog : Program} {w : World} {A : Around} {E : Value → Shared → Prop} {s : Shared}
theorem call_enumT {l : Addr} {items : Array Value} {Q : Value → Shared → Prop} (hL : s.heap.IsTuple l items)
    (h : ∀ h', IsEnum h' (s.heap.objs.size + 1) s.heap.objs.size 0 .none → h'.IsTupleIter s.heap.objs.size l 0 → h'.objs.size = s.heap.objs.size + 2 →
      (∀ b o, s.heap.get? b = some o → h'.get? b = some o) → Q (.ref (s.heap.objs.size + 1)) { s with heap := h' }) :
    wpAny (model prog w) A (call (.type "enumerate") [.ref l]) Q E s := by
  obtain ⟨⟨c, dct, dt, sl⟩, hl, hc, n, hd⟩ := hL
  replace hc : c = .type "tuple" := hc
  replace hd : dt = .seq items n := hd
  subst hc hd
  refine callType_new F.called_enumerate (by decide) (F.typeCall_enumerate_1 _) (F.newCall_enumerate_1 _) (fun obj => F.args_object_init_2 obj _) F.entry_enumerate_new
    (meets_enumT l items n dct sl) ⟨hl, ?_⟩
  have hz : (s.heap.push { cls := .type "tuple_iterator", data := .fields #[.ref l, .int 0 0] }).objs.size = s.heap.objs.size + 1 := Heap.size_push ..
  show _ ∧ _
  rw [hz]
  have he : IsEnum ((s.heap.push { cls := .type "tuple_iterator", data := .fields #[.ref l, .int 0 0] }).push
      { cls := .type "enumerate", data := .fields #[.none, .bool false, .ref s.heap.objs.size, rawInt 0, .none, .none] }) (s.heap.objs.size + 1) s.heap.objs.size 0 .none := by
    have := Heap.get?_push_size (s.heap.push { cls := .type "tuple_iterator", data := .fields #[.ref l, .int 0 0] })
      (o := { cls := .type "enumerate", data := .fields #[.none, .bool false, .ref s.heap.objs.size, rawInt 0, .none, .none] }) rfl
    rw [hz] at this; exact this
  refine ⟨⟨_, he, rfl⟩, h _ he ⟨_, Heap.get?_push_of_some _ (Heap.get?_push_size _ rfl), rfl, rfl⟩ (by rw [Heap.size_push, hz]) fun b o x => Heap.get?_push_of_some _ (Heap.get?_push_of_some _ x)⟩
end
/-- the tuple at a, each item in a new pair with its number -/
def IteT (K : Fg) (a : Addr) : It :=
  ⟨fun i H => ∃ (xs : List V) (x : V), SqT K H a xs ∧ xs[i]? = some x, fun i H v H' => ∃ T x, v = .ref T ∧ H T = none ∧ H' = upd H T (.tup [.int (i : Nat), x]) ∧ ∀ xs, SqT K H a xs → xs[i]? = some x, fun i H => ∃ xs : List V, SqT K H a xs ∧ xs.length ≤ i⟩
def IteS (z : Str) : It :=
  ⟨fun i _ => i < z.cps.size, fun i H v H' => ∃ T c, v = .ref T ∧ H T = none ∧ H' = upd H T (.tup [.int (i : Nat), .str ⟨#[c]⟩]) ∧ z.cps[i]? = some c, fun i _ => z.cps.size ≤ i⟩
theorem turn_enumT {P : Program} {w : World} {K : Fg} {elts : List Expr} {kk : Nat} {tpos : Pos} (a e it : Addr) :
    Turn P w K (.Tuple elts kk tpos) (IteT K a) [e, it] e (fun i h => (∃ old, IsEnum h e it ((i : Nat) : Int) old) ∧ h.IsTupleIter it a i ∧ e ≠ it ∧ a ≠ it ∧ a ≠ e) where
  mem := by simp
  obj := fun i h st b hb => by
    obtain ⟨⟨old, he⟩, ⟨o, ho, hc, hd⟩, _⟩ := st
    have e' : b = e ∨ b = it := by simpa using hb
    rcases e' with z | z
    · rw [z]; exact ⟨_, he, fun v q => nomatch q⟩
    · rw [z]; exact ⟨o, ho, fun v q => by rw [hd] at q; cases q⟩
  keep := fun i h h' st k => let ⟨⟨old, he⟩, hi, hne⟩ := st; ⟨⟨old, k e (by simp) _ he⟩, hi.at fun o q => k it (by simp) o q, hne⟩
  item := by
    intro X hP hw hK hc i pins s σ H E I hf st hg
    subst hP hw hK
    obtain ⟨⟨old, he⟩, hit, hne, hai, hae⟩ := st
    obtain ⟨xs, x, hq, hx⟩ := hg
    obtain ⟨its, rv, p, hz⟩ := I.tuple hq
    obtain ⟨u, hu, ru⟩ := rv.get hx
    have hel : e < s.heap.objs.size := Heap.lt_size he
    have hil : it < s.heap.objs.size := by obtain ⟨_, q, _⟩ := hit; exact Heap.lt_size q
    have hlt : i < its.toArray.size := by
      have := (List.getElem?_eq_some_iff.mp hu).1
      simpa using this
    have Dr := Draws.tuple (prog := X.prog) (w := X.w) (A := X.A.in1) (I.ok.hd hc) it a hai its.toArray
    refine wpAny_pyNext_enum_itemD Dr he ⟨hit, p⟩ hlt hne (by simp [hne, Ne.symm hae]) fun y h' tk hP ho hit' hT hsz hk => ?_
    have ey : y = u := by
      have h1 : its[i]? = some y := by simpa using hP
      rw [hu] at h1
      exact (Option.some.inj h1).symm
    subst ey
    refine ⟨_, rfl, wpAny_letOwnedTupleGo_enum (s := { s with heap := h', toks := tk + 1 }) ho fun h'' he' sb => ?_⟩
    have hT2 : h''.get? s.heap.objs.size = some { cls := .type "tuple", data := .seq #[.int i tk, y] } := (sb.2 _ (Nat.ne_of_gt hel)).trans hT
    have new : ObjOk X.prog X.w (upd H s.heap.objs.size (.tup [.int (i : Nat), x])) h'' s.heap.objs.size (.tup [.int (i : Nat), x]) :=
      ⟨by show 2 ≤ sizeLine; decide, [.int i tk, y], .cons ⟨_, rfl⟩ (.cons ru .nil), ⟨_, hT2, rfl, _, rfl⟩⟩
    have I1 : Inv X pins σ (upd H s.heap.objs.size (.tup [.int (i : Nat), x])) { s with heap := h'', toks := tk + 1 } :=
      I.turnedNew (ch := [e, it]) (fun b ob hb q => (sb.2 b (fun z => hb (by simp [z]))).trans (hk b ob (fun z => hb (by simp [z])) (fun z => hb (by simp [z])) q)) hf (Nat.le_refl _) new
    refine ⟨.ref s.heap.objs.size, _, I1, rfl, ⟨_, x, rfl, I.hok.fresh (Nat.le_refl _), rfl, fun ys hy => by rw [I.tuple_inj hy hq]; exact hx⟩, ⟨⟨y, ?_⟩, hit'.1.at fun o q => (sb.2 it (Ne.symm hne)).trans q, hne, hai, hae⟩, fun b hb => ?_⟩
    · have e1 : ((i + 1 : Nat) : Int) = (i : Int) + 1 := by omega
      rw [e1]; exact he'
    · have hb' : b < s.heap.objs.size := by
        have e' : b = e ∨ b = it := by simpa using hb
        rcases e' with z | z
        · rw [z]; exact hel
        · rw [z]; exact hil
      rw [upd_ne (Nat.ne_of_lt hb')]
      exact (hf b hb).1
  done := by
    intro X hP hw hK hc i pins s σ H E I hf st hg
    subst hP hw hK
    obtain ⟨⟨old, he⟩, hit, hne, hai, hae⟩ := st
    obtain ⟨xs, hq, hx⟩ := hg
    obtain ⟨its, rv, p, hz⟩ := I.tuple hq
    obtain ⟨f0, f1, f2, f3, f4, f5⟩ := hf it (by simp)
    have hl := rv.length
    have D0 := Draws.tuple (prog := X.prog) (w := X.w) (A := X.A.in1) (I.ok.hd hc) it a hai its.toArray
    have Dr : Draws X.prog X.w X.A.in1 it [it, a] i (fun _ _ => False) (fun j h => j = i ∧ h.IsTupleIter it a i ∧ h.IsTuple a its.toArray) :=
      ⟨fun _ _ st => let ⟨o, ho, _⟩ := st.2.1; ⟨o, ho⟩, fun _ _ _ st hk => ⟨st.1, st.2.1.at fun o e => hk it (by simp) o e, st.2.2.at fun o e => hk a (by simp) o e⟩, fun j s Q E hj st => absurd st.1 (Nat.ne_of_lt hj), fun s Q E st hE => wpAny_nextOf_tuple_end (I.ok.hd hc) st.2.1 st.2.2 (by simp; omega) hE⟩
    exact wpAny_pyNext_enum_endD Dr he ⟨rfl, hit, p⟩ fun h' eb => ⟨rfl, I.turned (t' := s.toks) (fun b o hb q => eb b o hb q) f0 f1 f3 f4 f5⟩
  self := fun A i s Q E st h => let ⟨⟨_, he⟩, _⟩ := st; wpAny_pyIter_enum he h
theorem turn_enumS {P : Program} {w : World} {K : Fg} {elts : List Expr} {kk : Nat} {tpos : Pos} (z : Str) (t : Tok) (e it : Addr) :
    Turn P w K (.Tuple elts kk tpos) (IteS z) [e, it] e (fun i h => (∃ old, IsEnum h e it ((i : Nat) : Int) old) ∧ h.IsStrIter it (strIterType z) z t i ∧ e ≠ it ∧ i ≤ z.cps.size) where
  mem := by simp
  obj := fun i h st b hb => by
    obtain ⟨⟨old, he⟩, ⟨o, ho, hc, hd⟩, _⟩ := st
    have e' : b = e ∨ b = it := by simpa using hb
    rcases e' with z | z
    · rw [z]; exact ⟨_, he, fun v q => nomatch q⟩
    · rw [z]; exact ⟨o, ho, fun v q => by rw [hd] at q; cases q⟩
  keep := fun i h h' st k => let ⟨⟨old, he⟩, ⟨o, ho, r⟩, hne⟩ := st; ⟨⟨old, k e (by simp) _ he⟩, ⟨o, k it (by simp) o ho, r⟩, hne⟩
  item := by
    intro X hP hw hK hc i pins s σ H E I hf st hg
    subst hP hw hK
    obtain ⟨⟨old, he⟩, hit, hne, hle⟩ := st
    have hel : e < s.heap.objs.size := Heap.lt_size he
    have hil : it < s.heap.objs.size := by obtain ⟨_, q, _⟩ := hit; exact Heap.lt_size q
    have Dr := Draws.text (prog := X.prog) (w := X.w) (A := X.A.in1) (I.ok.hd hc) it z t
    refine wpAny_pyNext_enum_itemD Dr he hit hg hne (by simp [hne]) fun y h' tk hP ho hit' hT hsz hk => ?_
    obtain ⟨c, u, hcz, rfl⟩ := hP
    refine ⟨_, rfl, wpAny_letOwnedTupleGo_enum (s := { s with heap := h', toks := tk + 1 }) ho fun h'' he' sb => ?_⟩
    have hT2 : h''.get? s.heap.objs.size = some { cls := .type "tuple", data := .seq #[.int i tk, .str ⟨#[c]⟩ u] } := (sb.2 _ (Nat.ne_of_gt hel)).trans hT
    have new : ObjOk X.prog X.w (upd H s.heap.objs.size (.tup [.int (i : Nat), .str ⟨#[c]⟩])) h'' s.heap.objs.size (.tup [.int (i : Nat), .str ⟨#[c]⟩]) :=
      ⟨by show 2 ≤ sizeLine; decide, [.int i tk, .str ⟨#[c]⟩ u], .cons ⟨_, rfl⟩ (.cons ⟨_, rfl⟩ .nil), ⟨_, hT2, rfl, _, rfl⟩⟩
    have I1 : Inv X pins σ (upd H s.heap.objs.size (.tup [.int (i : Nat), .str ⟨#[c]⟩])) { s with heap := h'', toks := tk + 1 } :=
      I.turnedNew (ch := [e, it]) (fun b ob hb q => (sb.2 b (fun z => hb (by simp [z]))).trans (hk b ob (fun z => hb (by simp [z])) (fun z => hb (by simp [z])) q)) hf (Nat.le_refl _) new
    refine ⟨.ref s.heap.objs.size, _, I1, rfl, ⟨_, c, rfl, I.hok.fresh (Nat.le_refl _), rfl, hcz⟩, ⟨⟨.str ⟨#[c]⟩ u, ?_⟩, Dr.frame (i + 1) _ _ hit' (fun b hb o q => ?_), hne, hg⟩, fun b hb => ?_⟩
    · have e1 : ((i + 1 : Nat) : Int) = (i : Int) + 1 := by omega
      rw [e1]; exact he'
    · have : b = it := by simpa using hb
      subst this
      exact (sb.2 b (Ne.symm hne)).trans q
    · have hb' : b < s.heap.objs.size := by
        have e' : b = e ∨ b = it := by simpa using hb
        rcases e' with z | z
        · rw [z]; exact hel
        · rw [z]; exact hil
      rw [upd_ne (Nat.ne_of_lt hb')]
      exact (hf b hb).1
  done := by
    intro X hP hw hK hc i pins s σ H E I hf st hg
    subst hP hw hK
    obtain ⟨⟨old, he⟩, hit, hne, hle⟩ := st
    have ei : i = z.cps.size := Nat.le_antisymm hle hg
    subst ei
    obtain ⟨f0, f1, f2, f3, f4, f5⟩ := hf it (by simp)
    have Dr := Draws.text (prog := X.prog) (w := X.w) (A := X.A.in1) (I.ok.hd hc) it z t
    exact wpAny_pyNext_enum_endD Dr he hit fun h' eb => ⟨rfl, I.turned (t' := s.toks) (fun b o hb q => eb b o hb q) f0 f1 f3 f4 f5⟩
  self := fun A i s Q E st h => let ⟨⟨_, he⟩, _⟩ := st; wpAny_pyIter_enum he h
def iEnumA (K : Fg) (ta : TA) : TI := fun σ H R => ta σ H fun vs H1 => (∃ a xs, vs = [.ref a] ∧ SqT K H1 a xs ∧ R (IteT K a) H1) ∨ (∃ z, vs = [.str z] ∧ R (IteS z) H1)
theorem pi_enumA {X : Cx} {e : Expr} {ta : TA} {p pos tpos : Pos} {elts : List Expr} {kk : Nat} (hg : Gl X "enumerate") (hm : X.mg "enumerate" = none) (ha : PA X [e] ta) (hs : starEach [e] X.env = [(false, eval e X.env)] := by rfl) :
    PI X (.Tuple elts kk tpos) (.Call (.Name "enumerate" p) [e] [] pos) (iEnumA X.K ta) := by
  refine ⟨fun pins s σ H R I h => ?_⟩
  refine PyProof.Rows.Call_ (ld_blt I hg hm (PyProof.Rows.boot_enumerate) (PyProof.Rows.callWith_type1 (thn (ha.run pos pins s σ H _ I h) fun us s1 ⟨vs, H1, I1, r1, q1⟩ => ?_) hs rfl))
  rcases q1 with ⟨a, xs, ex, hq, q⟩ | ⟨z, ex, q⟩
  · subst ex
    cases r1 with
    | cons r rr =>
      cases rr
      cases r
      obtain ⟨its, rv, p', hz⟩ := I1.tuple hq
      have hal : a < s1.heap.objs.size := p'.lt
      refine call_enumT p' fun h' he hit hsz hk => wpAny_pyIter_enum he ?_
      have I2 : Inv X pins σ H1 { s1 with heap := h' } := I1.kept (t' := s1.toks) hk
      refine ⟨s1.heap.objs.size + 1, [s1.heap.objs.size + 1, s1.heap.objs.size], _, _, H1, rfl, I2, turn_enumT a (s1.heap.objs.size + 1) s1.heap.objs.size, ⟨⟨.none, he⟩, hit, Nat.succ_ne_self _, Nat.ne_of_lt hal, Nat.ne_of_lt (Nat.lt_succ_of_lt hal)⟩, fun b hb => ?_, q⟩
      have e' : b = s1.heap.objs.size + 1 ∨ b = s1.heap.objs.size := by simpa using hb
      have hle : s1.heap.objs.size ≤ b := by
        rcases e' with z | z
        · rw [z]; exact Nat.le_add_right _ _
        · rw [z]; exact Nat.le_refl _
      exact I1.fpOk hle (I1.hok.fresh hle)
  · subst ex
    cases r1 with
    | cons r rr =>
      cases rr
      obtain ⟨t, rfl⟩ := r
      refine call_enumerate_str fun h' he hit hsz hk => wpAny_pyIter_enum he ?_
      have I2 : Inv X pins σ H1 { s1 with heap := h' } := I1.kept (t' := s1.toks) hk
      refine ⟨s1.heap.objs.size + 1, [s1.heap.objs.size + 1, s1.heap.objs.size], _, _, H1, rfl, I2, turn_enumS z t (s1.heap.objs.size + 1) s1.heap.objs.size, ⟨⟨.none, he⟩, hit, Nat.succ_ne_self _, Nat.zero_le _⟩, fun b hb => ?_, q⟩
      have e' : b = s1.heap.objs.size + 1 ∨ b = s1.heap.objs.size := by simpa using hb
      have hle : s1.heap.objs.size ≤ b := by
        rcases e' with z | z
        · rw [z]; exact Nat.le_add_right _ _
        · rw [z]; exact Nat.le_refl _
      exact I1.fpOk hle (I1.hok.fresh hle)
/-- numbered data -/
def enumD (ds : List D) : List D := ds.zipIdx.map fun p => .tuple [.int (p.2 : Nat), p.1]
theorem enumD_len {ds : List D} : (enumD ds).length = ds.length := by unfold enumD; rw [List.length_map, List.length_zipIdx]
theorem enumD_get {ds : List D} {i : Nat} {d : D} (h : (enumD ds)[i]? = some d) : ∃ x, ds[i]? = some x ∧ d = .tuple [.int (i : Nat), x] := by
  unfold enumD at h
  rw [List.getElem?_map, List.getElem?_zipIdx] at h
  cases q : ds[i]? with
  | none => rw [q] at h; cases h
  | some x =>
    rw [q] at h
    cases h
    exact ⟨x, rfl, by simp⟩
theorem wkd_enumT {K : Fg} {Hs : Hp} {a : Addr} {vs : List V} {ds : List D} (h : SqT K Hs a vs) (p : DqAll K Hs vs ds) : WkD false K (IteT K a) Hs (enumD ds) where
  go := fun i H s hi => by
    rw [enumD_len] at hi
    have h1 : i < vs.length := by rw [p.len]; exact hi
    exact ⟨vs, vs[i], sqT_mono s h, List.getElem?_eq_getElem h1⟩
  stop := fun H s => ⟨vs, sqT_mono s h, by rw [enumD_len, p.len]; exact Nat.le_refl _⟩
  yld := fun i Hs1 H x H' d s1 s2 e y => by
    obtain ⟨T, v, rfl, hT, rfl, y1⟩ := y
    obtain ⟨x, e1, rfl⟩ := enumD_get e
    obtain ⟨v', f1, f2⟩ := p.get e1
    have z1 := y1 vs (sqT_mono (s1.trans s2) h)
    rw [f1] at z1; cases z1
    exact ⟨_, pair_new s2 hT (.int _) (dp_mono s1 f2)⟩
theorem wkd_enumS {K : Fg} {Hs : Hp} {z : Str} : WkD false K (IteS z) Hs (enumD (signsD z)) where
  go := fun i H s hi => by rw [enumD_len] at hi; unfold signsD at hi; rw [List.length_map, Array.length_toList] at hi; exact hi
  stop := fun H s => by rw [enumD_len]; unfold signsD; rw [List.length_map, Array.length_toList]; exact Nat.le_refl _
  yld := fun i Hs1 H x H' d s1 s2 e y => by
    obtain ⟨T, c, rfl, hT, rfl, y1⟩ := y
    obtain ⟨x, e1, rfl⟩ := enumD_get e
    unfold signsD at e1
    rw [List.getElem?_map, Array.getElem?_toList, y1] at e1
    cases e1
    exact ⟨_, pair_new s2 hT (.int _) (.str _)⟩
section
variable {X : Cx} {M : Mem} {iter e a : Expr} {ρ : Env} {ds : List D} {pos p tpos : Pos} {elts : List Expr} {kk : Nat}
theorem pid_enumT (hg : Gl X "enumerate") (hm : X.mg "enumerate" = none) (h : PD X a ρ M (.tuple ds)) (hs : starEach [a] X.env = [(false, eval a X.env)] := by rfl) : PID X false (.Tuple elts kk tpos) (.Call (.Name "enumerate" p) [a] [] pos) ρ M (enumD ds) :=
  pid_of (pi_enumA hg hm (pa_cons pe_w pa_nil hs) hs) fun Hs H σ R i r k => h.run Hs H σ _ i r fun v Hs1 H1 g1 p1 => by
    obtain ⟨a1, vs, rfl, ha, pa⟩ := dp_tup p1
    exact .inl ⟨a1, vs, rfl, sqT_mono g1.i ha.sq, k _ Hs1 H1 g1 (wkd_enumT ha.sq pa)⟩
theorem pid_enumS {z : Str} (hg : Gl X "enumerate") (hm : X.mg "enumerate" = none) (h : PD X a ρ M (.str z)) (hs : starEach [a] X.env = [(false, eval a X.env)] := by rfl) : PID X false (.Tuple elts kk tpos) (.Call (.Name "enumerate" p) [a] [] pos) ρ M (enumD (signsD z)) :=
  pid_of (pi_enumA hg hm (pa_cons pe_w pa_nil hs) hs) fun Hs H σ R i r k => h.run Hs H σ _ i r fun v Hs1 H1 g1 p1 => .inr ⟨z, by rw [dp_str p1], k _ Hs1 H1 g1 wkd_enumS⟩
end
end AB
namespace AB
open PySem L2
/-- what may have happened: data grew, things of the memory changed, all else stands -/
structure Fr (Hs H : Hp) (M : Mem) (Hs' H' : Hp) (M' : Mem) : Prop where
  s : Same Hs Hs'
  k : ∀ a o, H a = some o → M a = none → H' a = some o
  n : ∀ a, Hs a = none → Hs' a ≠ none → H a = none ∨ M a ≠ none
  f : ∀ a, M a = none → M' a ≠ none → H a = none
  t : ∀ a, H a ≠ none → H' a ≠ none
section
variable {K : Fg} {Hs H Hs' H' Hs1 H1 Hs2 H2 : Hp} {M M' M1 M2 : Mem}
theorem Fr.refl : Fr Hs H M Hs H M := ⟨Same.refl _, fun _ _ h _ => h, fun _ h1 h2 => absurd h1 h2, fun _ h1 h2 => absurd h1 h2, fun _ h => h⟩
theorem Fr.trans (a : Fr Hs H M Hs1 H1 M1) (b : Fr Hs1 H1 M1 Hs2 H2 M2) : Fr Hs H M Hs2 H2 M2 where
  s := a.s.trans b.s
  k := fun x o h m => b.k x o (a.k x o h m) (by
    cases q : M1 x with
    | none => rfl
    | some z => rw [a.f x m (by rw [q]; intro z; cases z)] at h; cases h)
  n := fun x h1 h2 => by
    cases q : Hs1 x with
    | some z => exact a.n x h1 (by rw [q]; intro z; cases z)
    | none =>
      rcases b.n x q h2 with e | e
      · refine .inl ?_
        cases q2 : H x with
        | none => rfl
        | some z => exact absurd e (a.t x (by rw [q2]; intro z; cases z))
      · cases q2 : M x with
        | some z => exact .inr (by intro z; cases z)
        | none => exact .inl (a.f x q2 e)
  f := fun x h1 h2 => by
    cases q : M1 x with
    | some z => exact a.f x h1 (by rw [q]; intro z; cases z)
    | none =>
      have e := b.f x q h2
      cases q2 : H x with
      | none => rfl
      | some z => exact absurd e (a.t x (by rw [q2]; intro z; cases z))
  t := fun x h => b.t x (a.t x h)
theorem Grow.fr (g : Grow Hs H Hs' H') : Fr Hs H M Hs' H' M where
  s := g.s
  k := fun a o h _ => g.h a o h
  n := fun a h1 h2 => by
    cases q : H a with
    | none => exact .inl rfl
    | some z => exact absurd (g.n a h1 (by rw [q]; intro z; cases z)) h2
  f := fun _ h1 h2 => absurd h1 h2
  t := fun a h => by
    cases q : H a with
    | none => exact absurd q h
    | some z => rw [g.h a z q]; intro z; cases z
theorem Fr.grow0 (r : RelM K Hs' H' M') (f : Fr Hs H m0 Hs' H' M') : Grow Hs H Hs' H' :=
  ⟨fun a o h => f.k a o h rfl, f.s, r.i, fun a h1 h2 => by
    cases q : Hs' a with
    | none => rfl
    | some z =>
      rcases f.n a h1 (by rw [q]; intro z; cases z) with e | e
      · exact absurd e h2
      · exact absurd rfl e⟩
end

/-! ### statements -/
structure Post where
  nx : Env → Mem → Prop
  rt : Sl → Mem → Prop
  bk : Env → Mem → Prop := fun _ _ => False
  ct : Env → Mem → Prop := fun _ _ => False
structure Acc (K : Fg) (Hs H : Hp) (M : Mem) (Φ : Post) (E : Ends) : Prop where
  nx : ∀ Hs' H' M' σ' ρ', RelM K Hs' H' M' → Fr Hs H M Hs' H' M' → EnvR K Hs' σ' ρ' → Φ.nx ρ' M' → E.nx σ' H'
  rt : ∀ Hs' H' M' v s, RelM K Hs' H' M' → Fr Hs H M Hs' H' M' → SlV K Hs' v s → Φ.rt s M' → E.rt v H'
  bk : ∀ Hs' H' M' σ' ρ', RelM K Hs' H' M' → Fr Hs H M Hs' H' M' → EnvR K Hs' σ' ρ' → Φ.bk ρ' M' → E.bk σ' H'
  ct : ∀ Hs' H' M' σ' ρ', RelM K Hs' H' M' → Fr Hs H M Hs' H' M' → EnvR K Hs' σ' ρ' → Φ.ct ρ' M' → E.ct σ' H'
theorem Acc.fr {K : Fg} {Hs H Hs1 H1 : Hp} {M M1 : Mem} {Φ : Post} {E : Ends} (a : Acc K Hs H M Φ E) (f : Fr Hs H M Hs1 H1 M1) : Acc K Hs1 H1 M1 Φ E :=
  ⟨fun Hs' H' M' σ' ρ' r g => a.nx Hs' H' M' σ' ρ' r (f.trans g), fun Hs' H' M' v s r g => a.rt Hs' H' M' v s r (f.trans g), fun Hs' H' M' σ' ρ' r g => a.bk Hs' H' M' σ' ρ' r (f.trans g), fun Hs' H' M' σ' ρ' r g => a.ct Hs' H' M' σ' ρ' r (f.trans g)⟩
structure DS (X : Cx) (st : Stmt) (ρ : Env) (M : Mem) (Φ : Post) : Prop where
  run : ∀ (Hs H : Hp) (σ : L2.St) (E : Ends), RelM X.K Hs H M → EnvR X.K Hs σ ρ → Acc X.K Hs H M Φ E → tWs X st E σ H
structure DSs (X : Cx) (sts : List Stmt) (ρ : Env) (M : Mem) (Φ : Post) : Prop where
  run : ∀ (Hs H : Hp) (σ : L2.St) (E : Ends), RelM X.K Hs H M → EnvR X.K Hs σ ρ → Acc X.K Hs H M Φ E → tWss X sts E σ H
section
variable {X : Cx} {st : Stmt} {sts els : List Stmt} {ρ : Env} {M : Mem} {Φ : Post} {e c tg iter : Expr} {d : D} {pos : Pos}
theorem dss_nil (h : Φ.nx ρ M) : DSs X [] ρ M Φ := ⟨fun Hs H σ E r q a => PSs.w pss_nil (a.nx Hs H M σ ρ r .refl q h)⟩
theorem dss_cons (h : DS X st ρ M { Φ with nx := fun ρ' M' => DSs X sts ρ' M' Φ }) : DSs X (st :: sts) ρ M Φ :=
  ⟨fun Hs H σ E r q a => PSs.w (pss_cons ps_w pss_w) (h.run Hs H σ _ r q ⟨fun Hs' H' M' σ' ρ' r' f q' k => k.run Hs' H' σ' E r' q' (a.fr f), a.rt, a.bk, a.ct⟩)⟩
theorem dss_one (h : DS X st ρ M Φ) : DSs X [st] ρ M Φ := ⟨fun Hs H σ E r q a => PSs.w (pss_one ps_w) (h.run Hs H σ E r q a)⟩
theorem ds_pass (h : Φ.nx ρ M) : DS X (.Pass pos) ρ M Φ := ⟨fun Hs H σ E r q a => PS.w ps_pass (a.nx Hs H M σ ρ r .refl q h)⟩
theorem ds_break (h : Φ.bk ρ M) : DS X (.Break pos) ρ M Φ := ⟨fun Hs H σ E r q a => PS.w ps_break (a.bk Hs H M σ ρ r .refl q h)⟩
theorem ds_cont (h : Φ.ct ρ M) : DS X (.Continue pos) ρ M Φ := ⟨fun Hs H σ E r q a => PS.w ps_continue (a.ct Hs H M σ ρ r .refl q h)⟩
theorem ds_ret (he : PD X e ρ M d) (h : Φ.rt (.d d) M) : DS X (.Return (some e) pos) ρ M Φ :=
  ⟨fun Hs H σ E r q a => PS.w (ps_ret pe_w) (he.run Hs H σ _ r q fun v Hs1 H1 g p => a.rt Hs1 H1 M v _ (r.grow g) g.fr (slv_d p) h)⟩
theorem ds_set (i : Nat) {x : Str} {pos' : Pos} (hN : X.N.Nodup) (he : PD X e ρ M d) (h : Φ.nx (ρ.set i (.d d)) M) (hi : X.N[i]? = some x := by rfl) (hx : Loc X.env.scope x := by first | exact Or.inl rfl | exact Or.inr rfl) (hs : swapsWith e (some (.Name x pos')) pos.line X.env = pure false := by rfl)
    (hf : X.fn x = true ∨ X.env.scope.names.lookup x = some .local := by first | exact .inl rfl | exact .inr rfl | assumption) : DS X (.Assign [.Name x pos'] e pos) ρ M Φ :=
  ⟨fun Hs H σ E r q a => PS.w (ps_set hN hi hx pe_w hs hf) (he.run Hs H σ _ r q fun v Hs1 H1 g p => a.nx Hs1 H1 M _ _ (r.grow g) g.fr ((q.mono g.s).set i (s := .d d) ⟨v, rfl, p⟩) h)⟩
/-- x = [..] on one line -/
theorem ds_setLc (i : Nat) {x : Str} {pos' lpos : Pos} {S : Bool} {own : List (Str × Nat)} {elt : Expr} {ifs : List Expr} {scope : Scope} {items : List D} (f : D → Option D) (hc : X.calm = true) (hN : X.N.Nodup) (ok : BlkOk X.N X.env.scope scope own) (hi : PID X S tg iter ρ M items) (hz : items.length ≤ 16777000)
    (ht : ∀ d, d ∈ items → Turn1 X S scope tg ifs elt ρ M (own.map (·.2)) d (f d)) (e : PyData.list (items.filterMap f) = d) (h : Φ.nx (ρ.set i (.d d)) M) (hx : X.N[i]? = some x := by rfl) (hyl : X.env.scope.names.lookup x = some .local := by rfl)
    (hsw : swapsWith (.ListComp elt [⟨tg, iter, ifs, 0⟩] scope lpos) (some (.Name x pos')) pos.line X.env = pure true := by exact sw_true rfl rfl rfl rfl) (hs : ∀ x, foldedSetIterable iter X.env x = pure x := by intro _; rfl) : DS X (.Assign [.Name x pos'] (.ListComp elt [⟨tg, iter, ifs, 0⟩] scope lpos) pos) ρ M Φ :=
  ⟨fun Hs H σ E r q a => PS.w (ps_setLc hc hN hx hyl hsw pi_w ok lcG_ok lcT_ok lcE_ok hs) (lc_run f hi hz ht Hs H σ _ r q fun v Hs1 H1 g p => a.nx Hs1 H1 M _ _ (r.grow g) g.fr ((q.mono g.s).set i (s := .d d) ⟨v, rfl, e ▸ p⟩) h)⟩
/-- target = e -/
theorem ds_asg {ρ1 : Env} {ts : List Nat} (he : PD X e ρ M d) (hg : PGD X true tg d ρ ρ1 ts) (h : Φ.nx ρ1 M) (hs : swapsWithSole [tg] e pos.line X.env = pure false := by rfl) (hw : swappedStores [tg] e X.env = pure none := by rfl)
    (h1 : (assignEach [tg] X.env).map (·.2) = [assign tg X.env] := by rfl) : DS X (.Assign [tg] e pos) ρ M Φ :=
  ⟨fun Hs H σ E r q a => PS.w (ps_asg pe_w pg_w hs hw h1) (he.run Hs H σ _ r q fun v Hs1 H1 g p => hg.run Hs1 H1 σ v _ g.i (q.mono g.s) p fun σ' q' _ => a.nx Hs1 H1 M _ _ (r.grow g) g.fr q' h)⟩
theorem ds_if {b : Bool} {sa sb : List Stmt} (hc : PTD X c ρ M b) (h1 : b = true → DSs X sa ρ M Φ) (h2 : b = false → DSs X sb ρ M Φ) : DS X (.If c sa sb pos) ρ M Φ :=
  ⟨fun Hs H σ E r q a => PS.w (ps_if pt_w pss_w pss_w) (hc.run Hs H σ _ r q fun Hs1 H1 g => by
    cases b with
    | true => exact iteT ((h1 rfl).run Hs1 H1 σ E (r.grow g) (q.mono g.s) (a.fr g.fr))
    | false => exact iteF ((h2 rfl).run Hs1 H1 σ E (r.grow g) (q.mono g.s) (a.fr g.fr)))⟩
/-- an expression whose value is dropped -/
theorem ds_expr (he : PD X e ρ M d) (h : Φ.nx ρ M) (hs : swapsWith e none pos.line X.env = pure false := by rfl) : DS X (.Expr e pos) ρ M Φ :=
  ⟨fun Hs H σ E r q a => PS.w (ps_expr pe_w hs) (he.run Hs H σ _ r q fun v Hs1 H1 g p => a.nx Hs1 H1 M _ _ (r.grow g) g.fr (q.mono g.s) h)⟩
theorem DSs.imp {Ψ : Post} (h : DSs X sts ρ M Ψ) (n : ∀ ρ M, Ψ.nx ρ M → Φ.nx ρ M) (t : ∀ s M, Ψ.rt s M → Φ.rt s M) (b : ∀ ρ M, Ψ.bk ρ M → Φ.bk ρ M) (c : ∀ ρ M, Ψ.ct ρ M → Φ.ct ρ M) : DSs X sts ρ M Φ :=
  ⟨fun Hs H σ E r q a => h.run Hs H σ E r q ⟨fun _ _ _ _ _ r f q k => a.nx _ _ _ _ _ r f q (n _ _ k), fun _ _ _ _ _ r f q k => a.rt _ _ _ _ _ r f q (t _ _ k), fun _ _ _ _ _ r f q k => a.bk _ _ _ _ _ r f q (b _ _ k), fun _ _ _ _ _ r f q k => a.ct _ _ _ _ _ r f q (c _ _ k)⟩⟩
theorem DSs.weak {ρ' : Env} (h : DSs X sts ρ' M Φ) (hl : ρ'.length = ρ.length) (w : ∀ (i : Nat) (s : Sl), ρ'[i]? = some s → s = .u ∨ ρ[i]? = some s) : DSs X sts ρ M Φ := ⟨fun Hs H σ E r q a => h.run Hs H σ E r (q.weak hl w) a⟩
/-! loops: W, a word of the turn, the slots and the memory -/
theorem ds_for {S : Bool} {ds : List D} {body : List Stmt} (W : Nat → Env → Mem → Prop) (hp : PassesOwn (model X.prog X.w) X.A X.env X.xe) (hc : X.calm = true) (hi : PID X S tg iter ρ M ds) (h0 : W 0 ρ M)
    (ht : ∀ i d ρ' M', ds[i]? = some d → W i ρ' M' → ∃ ρ1 ts, PGD X S tg d ρ' ρ1 ts ∧ DSs X body ρ1 M' { Φ with nx := W (i + 1), ct := W (i + 1), bk := Φ.nx }) (hd : ∀ ρ' M', W ds.length ρ' M' → Φ.nx ρ' M')
    (hs : ∀ x, foldedSetIterable iter X.env x = pure x := by intro _; rfl) : DS X (.For tg iter body [] pos) ρ M Φ :=
  ⟨fun Hs H σ E r q a => PS.w (ps_for hp hc pi_w pg_w pss_w hs) (hi.run Hs H σ _ r q fun J Hs1 H1 g1 wk => by
    refine ⟨fun i m σ' H' => m = ds.length - i ∧ i ≤ ds.length ∧ ∃ Hs' M' ρ', RelM X.K Hs' H' M' ∧ Fr Hs H M Hs' H' M' ∧ Same Hs1 Hs' ∧ EnvR X.K Hs' σ' ρ' ∧ W i ρ' M', ⟨ds.length, by simp, Nat.zero_le _, Hs1, M, ρ, r.grow g1, g1.fr, Same.refl _, q.mono g1.s, h0⟩, ?_⟩
    rintro j m σ' H' ⟨rfl, hj, Hs', M', ρ', r', f', s', q', w'⟩
    by_cases hlt : j < ds.length
    · refine .inr ⟨wk.go j H' (s'.trans r'.i) hlt, fun σ2 H2 => ∃ Hs2 M2 ρ2, RelM X.K Hs2 H2 M2 ∧ Fr Hs H M Hs2 H2 M2 ∧ Same Hs1 Hs2 ∧ EnvR X.K Hs2 σ2 ρ2 ∧ W (j + 1) ρ2 M2, fun σ2 H2 w => ⟨_, by omega, rfl, hlt, w⟩, fun x H2 y => ?_⟩
      obtain ⟨d, hd⟩ : ∃ d, ds[j]? = some d := ⟨_, List.getElem?_eq_getElem hlt⟩
      obtain ⟨Hs2, g2, p2⟩ := wk.yld j Hs' H' x H2 d s' r'.i hd y
      obtain ⟨ρ1, ts, hg, hb⟩ := ht j d ρ' M' hd w'
      refine hg.run Hs2 H2 σ' x _ g2.i (q'.mono g2.s) p2 fun σ2 q2 _ => ?_
      refine hb.run Hs2 H2 σ2 _ (r'.grow g2) q2 ⟨fun Hs3 H3 M3 σ3 ρ3 r3 f3 q3 k => ⟨Hs3, M3, ρ3, r3, (f'.trans g2.fr).trans f3, (s'.trans g2.s).trans f3.s, q3, k⟩, fun Hs3 H3 M3 v s r3 f3 q3 k => a.rt Hs3 H3 M3 v s r3 ((f'.trans g2.fr).trans f3) q3 k, fun Hs3 H3 M3 σ3 ρ3 r3 f3 q3 k => a.nx Hs3 H3 M3 σ3 ρ3 r3 ((f'.trans g2.fr).trans f3) q3 k, fun Hs3 H3 M3 σ3 ρ3 r3 f3 q3 k => ⟨Hs3, M3, ρ3, r3, (f'.trans g2.fr).trans f3, (s'.trans g2.s).trans f3.s, q3, k⟩⟩
    · have ej : j = ds.length := by omega
      subst ej
      exact .inl ⟨wk.stop H' (s'.trans r'.i), a.nx Hs' H' M' σ' ρ' r' f' q' (hd ρ' M' w')⟩)⟩
theorem ds_while {body : List Stmt} (W : Nat → Env → Mem → Prop) (m : Nat) (hp : PassesOwn (model X.prog X.w) X.A X.env X.xe) (h0 : W m ρ M)
    (ht : ∀ n ρ' M', W n ρ' M' → ∃ b, PTD X c ρ' M' b ∧ (b = true → DSs X body ρ' M' { Φ with nx := fun ρ2 M2 => ∃ n', n' < n ∧ W n' ρ2 M2, ct := fun ρ2 M2 => ∃ n', n' < n ∧ W n' ρ2 M2, bk := Φ.nx }) ∧ (b = false → Φ.nx ρ' M')) : DS X (.While c body [] pos) ρ M Φ :=
  ⟨fun Hs H σ E r q a => PS.w (ps_while hp pt_w pss_w) (by
    refine ⟨fun n σ' H' => ∃ Hs' M' ρ', RelM X.K Hs' H' M' ∧ Fr Hs H M Hs' H' M' ∧ EnvR X.K Hs' σ' ρ' ∧ W n ρ' M', ⟨m, Hs, M, ρ, r, .refl, q, h0⟩, ?_⟩
    rintro n σ' H' ⟨Hs', M', ρ', r', f', q', w'⟩
    obtain ⟨b, hb, h1, h2⟩ := ht n ρ' M' w'
    refine hb.run Hs' H' σ' _ r' q' fun Hs1 H1 g => ?_
    cases b with
    | true =>
      refine iteT ⟨fun σ2 H2 => ∃ n', n' < n ∧ ∃ Hs2 M2 ρ2, RelM X.K Hs2 H2 M2 ∧ Fr Hs H M Hs2 H2 M2 ∧ EnvR X.K Hs2 σ2 ρ2 ∧ W n' ρ2 M2, fun σ2 H2 ⟨n', h, w⟩ => ⟨n', h, w⟩, ?_⟩
      exact (h1 rfl).run Hs1 H1 σ' _ (r'.grow g) (q'.mono g.s) ⟨fun Hs3 H3 M3 σ3 ρ3 r3 f3 q3 ⟨n', h, k⟩ => ⟨n', h, Hs3, M3, ρ3, r3, (f'.trans g.fr).trans f3, q3, k⟩, fun Hs3 H3 M3 v s r3 f3 q3 k => a.rt Hs3 H3 M3 v s r3 ((f'.trans g.fr).trans f3) q3 k, fun Hs3 H3 M3 σ3 ρ3 r3 f3 q3 k => a.nx Hs3 H3 M3 σ3 ρ3 r3 ((f'.trans g.fr).trans f3) q3 k, fun Hs3 H3 M3 σ3 ρ3 r3 f3 q3 ⟨n', h, k⟩ => ⟨n', h, Hs3, M3, ρ3, r3, (f'.trans g.fr).trans f3, q3, k⟩⟩
    | false => exact iteF (a.nx Hs1 H1 M' σ' ρ' (r'.grow g) (f'.trans g.fr) (q'.mono g.s) (h2 rfl)))⟩
/-! a list of one's own -/
/-- x = [] -/
theorem ds_newL (i : Nat) {x : Str} {pos' p2 : Pos} (hN : X.N.Nodup) (h : ∀ a, M a = none → Φ.nx (ρ.set i (.v (.ref a))) (mup M a (.lst []))) (hi : X.N[i]? = some x := by rfl) (hx : Loc X.env.scope x := by first | exact Or.inl rfl | exact Or.inr rfl) (hs : swapsWith (.List [] p2) (some (.Name x pos')) pos.line X.env = pure false := by rfl)
    (hf : X.fn x = true ∨ X.env.scope.names.lookup x = some .local := by first | exact .inl rfl | exact .inr rfl | assumption) : DS X (.Assign [.Name x pos'] (.List [] p2) pos) ρ M Φ :=
  ⟨fun Hs H σ E r q a => PS.w (ps_set hN hi hx (pe_lst pa_nil) hs hf) ⟨Nat.zero_le _, fun p hp => by
    have hM : M p = none := by
      cases z : M p with
      | none => rfl
      | some mo => obtain ⟨_, o, h2, _⟩ := r.m p mo z; rw [hp] at h2; cases h2
    refine a.nx Hs (upd H p (.lst [])) (mup M p (.lst [])) _ _ ⟨r.i.trans (same_upd hp), fun b mo e => ?_⟩ ⟨Same.refl _, fun b o h _ => same_upd hp b o h, fun _ h1 h2 => absurd h1 h2, fun b h1 h2 => ?_, fun b h => ?_⟩ (q.set i (s := .v (.ref p)) rfl) (h p hM)
    · by_cases hb : b = p
      · subst hb
        rw [mup_same] at e
        cases e
        exact ⟨r.i.free hp, _, upd_same, .nil⟩
      · rw [mup_ne hb] at e
        obtain ⟨h1, o, h2, h3⟩ := r.m b mo e
        exact ⟨h1, o, by rw [upd_ne hb]; exact h2, h3⟩
    · by_cases hb : b = p
      · subst hb; exact hp
      · rw [mup_ne hb] at h2; exact absurd h1 h2
    · by_cases hb : b = p
      · subst hb; rw [upd_same]; intro z; cases z
      · rw [upd_ne hb]; exact h⟩⟩
/-- xs.append(e), xs a list of one's own -/
theorem ds_app (i : Nat) {x : Str} {p apos cpos : Pos} {l : Addr} {ss : List Sl} (hl : ρ[i]? = some (.v (.ref l))) (hm : M l = some (.lst ss)) (he : PD X e ρ M d) (hz : ss.length < 16000000) (h : Φ.nx ρ (mup M l (.lst (ss ++ [.d d]))))
    (hN : X.N[i]? = some x := by rfl) (hv : Vis X.env.scope x := by first | exact Or.inl rfl | exact Or.inr (Or.inl rfl) | exact Or.inr (Or.inr rfl)) (hd : (x == ("__debug__" : Str)) = false := by decide) (hcd : (x == ("__classdict__" : Str)) = false := by decide)
    (hbase : attributeBase (.Name x p) "append" X.env (eval (.Name x p) X.env) = eval (.Name x p) X.env := by rfl)
    (hfew : ((backTo cpos (starEach [e] X.env)).all (fun x => !x.1) && (backToKw cpos (keywordEach [] X.env)).all (fun x => x.1.isSome)
      && decide ([e].length + ([] : List Keyword).length + (if ([] : List Keyword).isEmpty then 0 else 1) < 30)) = true := by rfl)
    (hline : (apos.endLine == cpos.line) = true := by rfl) (hs : starEach [e] X.env = (false, eval e X.env) :: starEach [] X.env := by rfl) (hplain : (backTo cpos (starEach [] X.env)).any (·.1) = false := by rfl) (hsw : swapsWith (.Call (.Attribute (.Name x p) "append" apos) [e] [] cpos) none pos.line X.env = pure false := by rfl) :
    DS X (.Expr (.Call (.Attribute (.Name x p) "append" apos) [e] [] cpos) pos) ρ M Φ :=
  ⟨fun Hs H σ E r q a => PS.w (ps_expr (pe_bm PySem.F.plainAttrs_list PySem.F.slot_list_append PySem.F.type_list_append mt_append (pe_var hN hv hd hcd) (pa_cons pe_w pa_nil hs) hbase hfew hline hs hplain) hsw) (by
    obtain ⟨h1, o, h2, h3⟩ := r.m l _ hm
    cases o with
    | lst vs =>
      refine ⟨.ref l, q.getV hl, .inl ⟨rfl, _, .of h2⟩, ?_⟩
      refine he.run Hs H σ _ r q fun v Hs1 H1 g p => ⟨l, vs, v, rfl, rfl, g.h _ _ h2, ?_, ?_⟩
      · have := Paired.length h3
        have : sizeLine = 16777216 := rfl
        omega
      · have r1 := r.grow g
        refine a.nx Hs1 (upd H1 l (.lst (vs ++ [v]))) (mup M l (.lst (ss ++ [.d d]))) σ ρ ⟨fun b o e => ?_, fun b mo e => ?_⟩ ⟨g.s, fun b o hb hn => ?_, (g.fr (M := M)).n, fun b k1 k2 => ?_, fun b hb => ?_⟩ (q.mono g.s) h
        · rw [upd_ne (ne_of_none e (r1.m l _ hm).1)]; exact r1.i b o e
        · by_cases hb : b = l
          · subst hb
            rw [mup_same] at e
            cases e
            refine ⟨(r1.m b _ hm).1, _, upd_same, ?_⟩
            exact paired_app (Paired.mapP h3 fun _ _ z => z.mono g.s) (.cons (slv_d p) .nil)
          · rw [mup_ne hb] at e
            obtain ⟨k1, o, k2, k3⟩ := r1.m b mo e
            exact ⟨k1, o, by rw [upd_ne hb]; exact k2, k3⟩
        · have hb2 : b ≠ l := fun z => by rw [z, hm] at hn; cases hn
          rw [upd_ne hb2]; exact g.h b o hb
        · by_cases hb : b = l
          · rw [hb, hm] at k1; cases k1
          · rw [mup_ne hb] at k2; exact absurd k1 k2
        · by_cases hb2 : b = l
          · subst hb2; rw [upd_same]; intro z; cases z
          · rw [upd_ne hb2]; exact (g.fr (M := M)).t b hb
    | _ => exact h3.elim)⟩
end
/-- a list of one's own that is not changed any more is data -/
theorem paired_data {K : Fg} {Hs : Hp} : ∀ {vs : List V} {ds : List D}, Paired (SlV K Hs) vs (ds.map Sl.d) → DqAll K Hs vs ds
  | [], [], _ => .nil
  | v :: vs, d :: ds, h => by
    cases h with
    | cons a b => exact .cons a.dp (paired_data b)
  | [], _ :: _, h => by cases h
  | _ :: _, [], h => by cases h
theorem dss_freeze {X : Cx} {sts : List Stmt} {ρ : Env} {M : Mem} {Φ : Post} (i : Nat) {l : Addr} {ds : List D} (hl : ρ[i]? = some (.v (.ref l))) (hm : M l = some (.lst (ds.map Sl.d))) (h : DSs X sts (ρ.set i (.d (.list ds))) (mdel M l) Φ) : DSs X sts ρ M Φ :=
  ⟨fun Hs H σ E r q a => by
    obtain ⟨h1, o, h2, h3⟩ := r.m l _ hm
    cases o with
    | lst vs =>
      have p := paired_data h3
      have hs : Same Hs (upd Hs l (.lst vs)) := same_upd h1
      have f : Fr Hs H M (upd Hs l (.lst vs)) H (mdel M l) := ⟨hs, fun b o h _ => h, fun b k1 k2 => by
        by_cases hb : b = l
        · subst hb; rw [hm]; exact .inr (by intro z; cases z)
        · rw [upd_ne hb] at k2; exact absurd k1 k2, fun b k1 k2 => by
        unfold mdel at k2
        split at k2
        · exact absurd rfl k2
        · exact absurd k1 k2, fun b h => h⟩
      have q2 : EnvR X.K (upd Hs l (.lst vs)) σ (ρ.set i (.d (.list ds))) := by
        have e : σ = σ.set i (some (.ref l)) := by
          refine List.ext_getElem? fun j => ?_
          by_cases hj : i = j
          · subst hj
            have hlt : i < σ.length := (List.getElem?_eq_some_iff.mp (q.getV hl)).1
            rw [List.getElem?_set_self hlt]; exact q.getV hl
          · rw [List.getElem?_set_ne hj]
        rw [e]
        exact (q.mono hs).set i ⟨_, rfl, .lst (.of upd_same) (dpAll_mono hs p)⟩
      refine h.run _ H σ E ⟨fun b o e => ?_, fun b mo e => ?_⟩ q2 (a.fr f)
      · by_cases hb : b = l
        · subst hb; rw [upd_same] at e; cases e; exact h2
        · rw [upd_ne hb] at e; exact r.i b o e
      · unfold mdel at e
        split at e
        · cases e
        · rename_i hb
          obtain ⟨k1, o, k2, k3⟩ := r.m b mo e
          exact ⟨by rw [upd_ne hb]; exact k1, o, k2, k3.mono hs⟩
    | _ => exact h3.elim⟩
/-! ### a def's body, by data -/
theorem dpAll_env {K : Fg} {Hs : Hp} {N : List Str} {vs : List V} {ds : List D} (p : DqAll K Hs vs ds) : EnvR K Hs (L2.start N vs) (ds.map Sl.d ++ List.replicate (N.length - ds.length) Sl.u) := by
  refine ⟨by unfold L2.start; simp [p.len], fun i o s h1 h2 => ?_⟩
  unfold L2.start at h1
  by_cases hi : i < ds.length
  · rw [List.getElem?_append_left (by simpa using hi), List.getElem?_map] at h2
    rw [List.getElem?_append_left (by rw [List.length_map, p.len]; exact hi), List.getElem?_map] at h1
    obtain ⟨d, hd⟩ : ∃ d, ds[i]? = some d := ⟨_, List.getElem?_eq_getElem hi⟩
    obtain ⟨v, e1, e2⟩ := p.get hd
    rw [hd] at h2
    rw [e1] at h1
    cases h1; cases h2
    exact ⟨v, rfl, e2⟩
  · rw [List.getElem?_append_right (by simpa using hi), List.getElem?_replicate] at h2
    split at h2
    · cases h2; exact trivial
    · cases h2
/-- where a def's body stands -/
abbrev bCx (P : Program) (w : World) (K : Fg) (mg : Str → Option Value) (base : Heap) (N : List Str) (qual : Str) (st : Stmt) (f : Addr) (cdv : Value) (A : Around) (outer : List PySem.Env) (s : Shared) (H : Hp) (E : XK) : Cx := (cxOf CX0 P w K mg base N qual (defScope st) f cdv A outer s H E).nox
def entry (N : List Str) (ds : List D) : Env := ds.map Sl.d ++ List.replicate (N.length - ds.length) Sl.u
/-- THE RULE for a pure def: from its body's walk by data -/
theorem fn_ok {P : Program} {w : World} {K : Fg} {mg : Str → Option Value} {base : Heap} {x qual : Str} {st : Stmt} {f : Addr} {fd : FuncData} {N ps : List Str} {k : Nat} {F : List D → D → Prop} (Fu : Fun K x qual st f fd) (S : FnScope N ps (defScope st))
    (len : ∀ ds d, F ds d → ds.length = ps.length)
    (body : ∀ (cdv : Value) (A : Around) (outer : List PySem.Env) (s : Shared) (H : Hp) (E : XK) (ds : List D) (d : D), Room k (A.deeper (PyProof.Rows.envOfC qual (defScope st) s.heap.objs.size f cdv)) → F ds d →
      DSs (bCx P w K mg base N qual st f cdv A outer s H E) (defBody st) (entry N ds) m0 { nx := fun _ _ => d = .none, rt := fun s _ => s = .d d }) : FnOk P w K mg base CX0 (k + 1) f fd ps (spD K F) := by
  refine Fu.ok S (fun vs H Q E h => ?_) (fun cdv A outer s H vs Q E hr h => ?_)
  · obtain ⟨Hs, ds, d, i, p, hF, _⟩ := h
    rw [p.len]; exact len ds d hF
  · obtain ⟨Hs, ds, d, i, p, hF, q⟩ := h
    refine ⟨_, pss_w, (body cdv A outer s H E ds d hr hF).run Hs H _ _ (.none i) (dpAll_env p) ⟨fun Hs' H' M' σ' ρ' r f q' k => ?_, fun Hs' H' M' v z r f q' k => ?_, fun _ _ _ _ _ _ _ _ k => k.elim, fun _ _ _ _ _ _ _ _ k => k.elim⟩⟩
    · exact q _ Hs' H' (Fr.grow0 r f) (by rw [show d = .none from k]; exact .non)
    · cases (show z = .d d from k)
      exact q _ Hs' H' (Fr.grow0 r f) q'.dp
theorem def_ok {P : Program} {w : World} {K : Fg} {mg : Str → Option Value} {base : Heap} {x qual : Str} {st : Stmt} {f : Addr} {fd : FuncData} {N ps : List Str} {k : Nat} {F : List D → D → Prop} (Fu : Fun K x qual st f fd) (S : FnScope N ps (defScope st)) (hm : mg x = some (.ref f)) (hb : Binds K fd ps [])
    (len : ∀ ds d, F ds d → ds.length = ps.length)
    (body : ∀ (cdv : Value) (A : Around) (outer : List PySem.Env) (s : Shared) (H : Hp) (E : XK) (ds : List D) (d : D), Room k (A.deeper (PyProof.Rows.envOfC qual (defScope st) s.heap.objs.size f cdv)) → F ds d →
      DSs (bCx P w K mg base N qual st f cdv A outer s H E) (defBody st) (entry N ds) m0 { nx := fun _ _ => d = .none, rt := fun s _ => s = .d d }) : DefD P w K mg base (k + 1) x ps F := ⟨f, fd, fn_ok Fu S len body, hm, Fu.kp, hb⟩
end AB
namespace AB
open PySem L2
/-! ### defs of the text as they stand, built-ins that are not hidden -/
structure Dfn (K : Fg) (mg : Str → Option Value) (x : Str) (st : Stmt) (ps : List Str) : Prop where
  ex : ∃ f fd, Fun K x x st f fd ∧ mg x = some (.ref f) ∧ Binds K fd ps []
theorem def_okD {P : Program} {w : World} {K : Fg} {mg : Str → Option Value} {base : Heap} {x : Str} {st : Stmt} {N ps : List Str} {k : Nat} {F : List D → D → Prop} (h : Dfn K mg x st ps) (S : FnScope N ps (defScope st)) (len : ∀ ds d, F ds d → ds.length = ps.length)
    (body : ∀ (f : Addr) (cdv : Value) (A : Around) (outer : List PySem.Env) (s : Shared) (H : Hp) (E : XK) (ds : List D) (d : D), Room k (A.deeper (PyProof.Rows.envOfC x (defScope st) s.heap.objs.size f cdv)) → F ds d →
      DSs (bCx P w K mg base N x st f cdv A outer s H E) (defBody st) (entry N ds) m0 { nx := fun _ _ => d = .none, rt := fun s _ => s = .d d }) : DefD P w K mg base (k + 1) x ps F := by
  obtain ⟨f, fd, h1, h2, h3⟩ := h.ex
  exact def_ok h1 S h2 h3 len (body f)
/-- the built-ins' names are free -/
structure Bt (mg : Str → Option Value) : Prop where
  len : mg "len" = none
  isi : mg "isinstance" = none
  str : mg "str" = none
  int : mg "int" = none
  bool : mg "bool" = none
  tuple : mg "tuple" = none
  list : mg "list" = none
  all : mg "all" = none
  range : mg "range" = none
  enumerate : mg "enumerate" = none
  zip : mg "zip" = none
  sorted : mg "sorted" = none
  set : mg "set" = none
  dict : mg "dict" = none
  min : mg "min" = none
  max : mg "max" = none
  repr : mg "repr" = none
theorem boot_isi : bootBuiltins "isinstance" = some (.builtin "isinstance") := by decide +kernel
theorem boot_str : bootBuiltins "str" = some (.type "str") := by decide +kernel
theorem boot_int : bootBuiltins "int" = some (.type "int") := by decide +kernel
theorem boot_bool : bootBuiltins "bool" = some (.type "bool") := by decide +kernel
/-! ### draws -/
def cellAt (ns : List Int) (k : Int) : Int := if k < (ns.length : Int) then ns.getD k.toNat 0 else 0
def mixA (c k : Int) : Int := (c + 7919 * k + 1) * 48271 % 2147483647
def mixI (c k : Int) : Int := (mixA c k * mixA c k + 7 * mixA c k + k) % 2147483629
def mixed (ns : List Int) (k : Int) : Int := mixI (cellAt ns k) k
def drawA (n k : Int) : Int := (n + 104729 * k + 17) * 69621 % 2147483647
def drawn (n k : Int) : Int := (drawA n k * drawA n k + 3 * drawA n k + k) % 2147483629
theorem mixA_b (c k : Int) : 0 ≤ mixA c k ∧ mixA c k < 2147483647 := by unfold mixA; omega
theorem drawA_b (c k : Int) : 0 ≤ drawA c k ∧ drawA c k < 2147483647 := by unfold drawA; omega
theorem mixed_b (ns : List Int) (k : Int) : 0 ≤ mixed ns k ∧ mixed ns k < 2147483629 := by unfold mixed mixI; omega
theorem drawn_b (n k : Int) : 0 ≤ drawn n k ∧ drawn n k < 2147483629 := by unfold drawn; omega
def dInts (ns : List Int) : D := .list (ns.map .int)
def FCell : List D → D → Prop := fun ds d => ∃ (ns : List Int) (k : Int), ds = [dInts ns, .int k] ∧ 0 ≤ k ∧ d = .int (cellAt ns k)
def FMixed : List D → D → Prop := fun ds d => ∃ (ns : List Int) (k : Int), ds = [dInts ns, .int k] ∧ 0 ≤ k ∧ k < 1000000 ∧ d = .int (mixed ns k)
def FDrawn : List D → D → Prop := fun ds d => ∃ (n k : Int), ds = [.int n, .int k] ∧ 0 ≤ k ∧ k < 1000000 ∧ d = .int (drawn n k)
/-! ### the law itself -/
def FLaw : List D → D → Prop := fun ds d => ∃ ns : List Int, ds = [dInts ns] ∧ ns.length ≤ 63 ∧ d = .bool true
theorem law_sp (K : Fg) (H : Hp) (a : Addr) (ns : List Int) (hl : ns.length ≤ 63) (_ : Only H) (hS : SqL K H a (ns.map V.int)) : spD K FLaw [.ref a] H (fun v _ => v = .bl true) fun _ _ _ => False :=
  ⟨H, [dInts ns], .bool true, Same.refl _, .cons (.lst hS dpAll_ints') .nil, ⟨ns, rfl, hl, rfl⟩, fun v Hs' H' _ p => dp_bl p⟩
end AB
namespace AB
open PySem L2
/-! ### things that change, met in expressions -/
/-- e is (a reference to) the thing mo -/
structure PO' (X : Cx) (e : Expr) (ρ : Env) (M : Mem) (mo : MO) : Prop where
  run : ∀ (Hs H : Hp) (σ : L2.St) (Q : VK), RelM X.K Hs H M → EnvR X.K Hs σ ρ → (∀ a o Hs' H', Grow Hs H Hs' H' → H' a = some o → RepO X.K Hs' o mo → Q (.ref a) H') → tWe X e σ H Q
/-- e makes the new thing mo -/
structure PN (X : Cx) (e : Expr) (ρ : Env) (M : Mem) (mo : MO) : Prop where
  run : ∀ (Hs H : Hp) (σ : L2.St) (Q : VK), RelM X.K Hs H M → EnvR X.K Hs σ ρ → (∀ a o Hs' H', Grow Hs H Hs' H' → H a = none → Hs' a = none → H' a = some o → RepO X.K Hs' o mo → Q (.ref a) H') → tWe X e σ H Q
section
variable {X : Cx} {e a b : Expr} {ρ : Env} {M : Mem} {mo : MO} {Φ : Post} {pos : Pos} {d : D}
theorem PN.o (h : PN X e ρ M mo) : PO' X e ρ M mo := ⟨fun Hs H σ Q r q k => h.run Hs H σ Q r q fun a o Hs' H' g _ _ e1 e2 => k a o Hs' H' g e1 e2⟩
/-- a name that holds it -/
theorem pov (i : Nat) {x : Str} {pos : Pos} {l : Addr} (h : ρ[i]? = some (.v (.ref l))) (hm : M l = some mo) (hN : X.N[i]? = some x := by rfl) (hv : Vis X.env.scope x := by first | exact Or.inl rfl | exact Or.inr (Or.inl rfl) | exact Or.inr (Or.inr rfl)) (hd : (x == ("__debug__" : Str)) = false := by decide)
    (hcd : (x == ("__classdict__" : Str)) = false := by decide) : PO' X (.Name x pos) ρ M mo :=
  ⟨fun Hs H σ Q r q k => PE.w (pe_var hN hv hd hcd) (by
    obtain ⟨h1, o, h2, h3⟩ := r.m l mo hm
    exact ⟨_, q.getV h, k l o Hs H (.refl r.i) h2 h3⟩)⟩
/-- x = e, e a new thing -/
theorem ds_setN (i : Nat) {x : Str} {pos' : Pos} (hN : X.N.Nodup) (he : PN X e ρ M mo) (h : ∀ l, M l = none → Φ.nx (ρ.set i (.v (.ref l))) (mup M l mo)) (hi : X.N[i]? = some x := by rfl) (hx : Loc X.env.scope x := by first | exact Or.inl rfl | exact Or.inr rfl) (hs : swapsWith e (some (.Name x pos')) pos.line X.env = pure false := by rfl)
    (hf : X.fn x = true ∨ X.env.scope.names.lookup x = some .local := by first | exact .inl rfl | exact .inr rfl | assumption) : DS X (.Assign [.Name x pos'] e pos) ρ M Φ :=
  ⟨fun Hs H σ E r q a => PS.w (ps_set hN hi hx pe_w hs hf) (he.run Hs H σ _ r q fun p o Hs1 H1 g hp hp1 e1 e2 => by
    have hM : M p = none := by
      cases z : M p with
      | none => rfl
      | some mo => obtain ⟨_, o, h2, _⟩ := r.m p mo z; rw [hp] at h2; cases h2
    have r1 := r.grow g
    refine a.nx Hs1 H1 (mup M p mo) _ _ ⟨r1.i, fun b mo' e => ?_⟩ ⟨g.s, fun b o h _ => g.h b o h, (g.fr (M := M)).n, fun b h1 h2 => ?_, (g.fr (M := M)).t⟩ ((q.mono g.s).set i (s := .v (.ref p)) rfl) (h p hM)
    · by_cases hb : b = p
      · subst hb
        rw [mup_same] at e
        cases e
        exact ⟨hp1, _, e1, e2⟩
      · rw [mup_ne hb] at e
        exact r1.m b mo' e
    · by_cases hb : b = p
      · subst hb; exact hp
      · rw [mup_ne hb] at h2; exact absurd h1 h2)⟩
end
/-! ### dicts with text keys -/
section
variable {α : Type}
def dctF (f : α → D) (kvs : List (Str × α)) : MO := .dct (kvs.map fun p => (Sum.inr p.1, Sl.d (f p.2)))
def lookA (kvs : List (Str × α)) (k : Str) : Option α := (kvs.find? fun p => decide (p.1 = k)).map (·.2)
def putA (kvs : List (Str × α)) (k : Str) (v : α) : List (Str × α) := if (kvs.any fun kv => decide (kv.1 = k)) = true then kvs.map (fun kv => if kv.1 = k then (kv.1, v) else kv) else kvs ++ [(k, v)]
def dropA (kvs : List (Str × α)) (k : Str) : List (Str × α) := kvs.filter fun kv => decide (kv.1 ≠ k)
theorem lookA_nil (k : Str) : lookA ([] : List (Str × α)) k = none := rfl
theorem lookA_pos {p : Str × α} {r : List (Str × α)} {k : Str} (e : p.1 = k) : lookA (p :: r) k = some p.2 := by simp [lookA, List.find?_cons, e]
theorem lookA_neg {p : Str × α} {r : List (Str × α)} {k : Str} (e : ¬ p.1 = k) : lookA (p :: r) k = lookA r k := by simp [lookA, List.find?_cons, e]
abbrev PairD (K : Fg) (Hs : Hp) (f : α → D) (p : Key × V) (q : Str × α) : Prop := p.1 = Sum.inr q.1 ∧ Dq K Hs p.2 (f q.2)
theorem pairs_back {K : Fg} {Hs : Hp} {f : α → D} : ∀ {kvs : List (Str × α)} {vs : List (Key × V)}, Paired (fun (p : Key × V) (q : Key × Sl) => p.1 = q.1 ∧ SlV K Hs p.2 q.2) vs (kvs.map fun p => (Sum.inr p.1, Sl.d (f p.2))) → Paired (PairD K Hs f) vs kvs
  | [], _, h => by cases h; exact .nil
  | q :: kvs, _, h => by
    rw [List.map_cons] at h
    cases h with
    | cons x y => exact .cons ⟨x.1, x.2.dp⟩ (pairs_back y)
theorem rep_dct {K : Fg} {Hs : Hp} {o : HO} {f : α → D} {kvs : List (Str × α)} (h : RepO K Hs o (dctF f kvs)) : ∃ vs, o = .dK vs ∧ Paired (PairD K Hs f) vs kvs := by
  cases o with
  | dK vs => exact ⟨vs, rfl, pairs_back h⟩
  | _ => exact h.elim
theorem dct_rep {K : Fg} {Hs : Hp} {f : α → D} {vs : List (Key × V)} {kvs : List (Str × α)} (h : Paired (PairD K Hs f) vs kvs) : RepO K Hs (.dK vs) (dctF f kvs) := by
  show Paired (fun (p : Key × V) (q : Key × Sl) => p.1 = q.1 ∧ SlV K Hs p.2 q.2) vs (kvs.map fun p => (Sum.inr p.1, Sl.d (f p.2)))
  induction kvs generalizing vs with
  | nil => cases h; exact .nil
  | cons q kvs ih =>
    cases h with
    | cons x y => rw [List.map_cons]; exact .cons ⟨x.1, slv_d x.2⟩ (ih y)
theorem look_rel {K : Fg} {Hs : Hp} {f : α → D} {vs : List (Key × V)} {kvs : List (Str × α)} (h : Paired (PairD K Hs f) vs kvs) (k : Str) :
    (∃ v x, valV vs (Sum.inr k) = some v ∧ lookA kvs k = some x ∧ Dq K Hs v (f x)) ∨ (valV vs (Sum.inr k) = none ∧ lookA kvs k = none) := by
  induction kvs generalizing vs with
  | nil => cases h; exact .inr ⟨rfl, rfl⟩
  | cons q kvs ih =>
    cases h with
    | cons x y =>
      by_cases e : q.1 = k
      · exact .inl ⟨_, _, valV_pos (x.1.trans (by rw [e])), lookA_pos e, x.2⟩
      · rw [lookA_neg e, valV_neg (fun z => e (Sum.inr.inj (x.1.symm.trans z)))]
        exact ih y
theorem any_rel {K : Fg} {Hs : Hp} {f : α → D} {vs : List (Key × V)} {kvs : List (Str × α)} (h : Paired (PairD K Hs f) vs kvs) (k : Str) : (vs.any fun kv => decide (kv.1 = (Sum.inr k : Key))) = kvs.any fun kv => decide (kv.1 = k) := by
  induction kvs generalizing vs with
  | nil => cases h; rfl
  | cons q kvs ih =>
    cases h with
    | cons x y =>
      rw [List.any_cons, List.any_cons, ih y, x.1]
      congr 1
      exact key_rr q.1 k
theorem put_map {K : Fg} {Hs : Hp} {f : α → D} (k : Str) {v : V} {x : α} (p : Dq K Hs v (f x)) : ∀ {kvs : List (Str × α)} {vs : List (Key × V)}, Paired (PairD K Hs f) vs kvs → Paired (PairD K Hs f) (vs.map fun kv => if kv.1 = Sum.inr k then (kv.1, v) else kv) (kvs.map fun kv => if kv.1 = k then (kv.1, x) else kv)
  | [], _, h => by cases h; exact .nil
  | q :: kvs, _, h => by
    cases h with
    | cons a y =>
      rw [List.map_cons, List.map_cons]
      refine .cons ?_ (put_map k p y)
      by_cases e : q.1 = k
      · rw [if_pos (a.1.trans (by rw [e])), if_pos e]; exact ⟨a.1, p⟩
      · rw [if_neg (fun z => e (Sum.inr.inj (a.1.symm.trans z))), if_neg e]; exact a
theorem put_rel {K : Fg} {Hs : Hp} {f : α → D} {vs : List (Key × V)} {kvs : List (Str × α)} (h : Paired (PairD K Hs f) vs kvs) (k : Str) {v : V} {x : α} (p : Dq K Hs v (f x)) : Paired (PairD K Hs f) (putK vs (Sum.inr k) v) (putA kvs k x) := by
  unfold putK putA
  rw [any_rel h k]
  split
  · exact put_map k p h
  · exact paired_app h (.cons ⟨rfl, p⟩ .nil)
theorem drop_rel {K : Fg} {Hs : Hp} {f : α → D} {vs : List (Key × V)} {kvs : List (Str × α)} (h : Paired (PairD K Hs f) vs kvs) (k : Str) : Paired (PairD K Hs f) (dropK vs (Sum.inr k)) (dropA kvs k) := by
  unfold dropK dropA
  induction kvs generalizing vs with
  | nil => cases h; exact .nil
  | cons q kvs ih =>
    cases h with
    | @cons p _ _ _ a y =>
      by_cases e : q.1 = k
      · rw [List.filter_cons, List.filter_cons, if_neg (by rw [a.1, e]; simp), if_neg (by simp [e])]
        exact ih y
      · rw [List.filter_cons, List.filter_cons, if_pos (decide_eq_true (show p.1 ≠ Sum.inr k from fun z => e (Sum.inr.inj (a.1.symm.trans z)))), if_pos (decide_eq_true (show q.1 ≠ k from e))]
        exact .cons a (ih y)
variable {X : Cx} {e a b c : Expr} {ρ : Env} {M : Mem} {pos : Pos} {d : D} {f : α → D} {kvs : List (Str × α)}
def getA (f : α → D) (kvs : List (Str × α)) (k : Str) (d : D) : D := match lookA kvs k with | some x => f x | none => d
/-- o.get(k, d) -/
theorem pd_get2 {apos : Pos} {k : Str} (hu : X.A.units + 1 < cLine) (ho : PO' X a ρ M (dctF f kvs)) (hk : PD X b ρ M (.str k)) (hd : PD X c ρ M d) (m : M2 X a "get" apos b c pos) : PD X (.Call (.Attribute a "get" apos) [b, c] [] pos) ρ M (getA f kvs k d) :=
  pd_of (pe_dget2 hu pe_w pe_w pe_w m) fun Hs H σ Q i q kk => ho.run Hs H σ _ i q fun l o Hs1 H1 g1 e1 e2 => by
    obtain ⟨vs, rfl, rel⟩ := rep_dct e2
    refine ⟨l, rfl, .inl ⟨vs, .inl e1⟩, ?_⟩
    refine hk.run Hs1 H1 σ _ (i.grow g1) (q.mono g1.s) fun v Hs2 H2 g2 p2 => hd.run Hs2 H2 σ _ (i.grow (g1.trans g2)) (q.mono (g1.trans g2).s) fun u Hs3 H3 g3 p3 => ?_
    have hv := dp_str p2
    subst hv
    have e3 : H3 l = some (.dK vs) := g3.h _ _ (g2.h _ _ e1)
    have gg := (g1.trans g2).trans g3
    rcases look_rel rel k with ⟨v, x, y1, y2, y3⟩ | ⟨y1, y2⟩
    · refine ⟨some v, DGet.k (k := Sum.inr k) e3 |> (fun z => by rw [y1] at z; exact z), ?_⟩
      refine kk _ Hs3 H3 gg ?_
      unfold getA
      rw [y2]
      exact dp_mono (g2.trans g3).s y3
    · refine ⟨none, DGet.k (k := Sum.inr k) e3 |> (fun z => by rw [y1] at z; exact z), ?_⟩
      refine kk _ Hs3 H3 gg ?_
      unfold getA
      rw [y2]
      exact p3
/-- a written dict of texts and data -/
inductive PPD (X : Cx) (ρ : Env) (M : Mem) (f : α → D) : List (Option Expr) → List Expr → List (Str × α) → Prop
  | nil : PPD X ρ M f [] [] []
  | cons {k v : Expr} {ks : List (Option Expr)} {vs : List Expr} {s : Str} {x : α} {kvs : List (Str × α)} : PD X k ρ M (.str s) → PD X v ρ M (f x) → PPD X ρ M f ks vs kvs → PPD X ρ M f (some k :: ks) (v :: vs) ((s, x) :: kvs)
def mergeA (kvs : List (Str × α)) : List (Str × α) := kvs.foldl (fun acc kv => putA acc kv.1 kv.2) []
theorem PPD.trs {keys : List (Option Expr)} {values : List Expr} {kvs : List (Str × α)} (h : PPD X ρ M f keys values kvs) : ∃ trs, PPs X pos keys values trs ∧ keys.all (·.isSome) = true ∧ keys.length = values.length ∧ keys.length = kvs.length ∧
    ∀ (Hs H : Hp) (σ : L2.St) (Q : List (V × V) → Hp → Prop), RelM X.K Hs H M → EnvR X.K Hs σ ρ → (∀ ps Hs' H', Grow Hs H Hs' H' → Paired (fun (p : V × V) (q : Str × α) => p.1 = .str q.1 ∧ Dq X.K Hs' p.2 (f q.2)) ps kvs → Q ps H') → tPairs trs σ H Q := by
  induction h with
  | nil => exact ⟨[], pps_nil, rfl, rfl, rfl, fun Hs H σ Q r q k => k [] Hs H (.refl r.i) .nil⟩
  | cons hk hv _ ih =>
    obtain ⟨trs, h1, h2, h3, h4, h5⟩ := ih
    refine ⟨_, pps_cons pe_w pe_w h1, by simpa using h2, by simp [h3], by simp [h4], fun Hs H σ Q r q k => ?_⟩
    refine hk.run Hs H σ _ r q fun v Hs1 H1 g1 p1 => hv.run Hs1 H1 σ _ (r.grow g1) (q.mono g1.s) fun u Hs2 H2 g2 p2 => h5 Hs2 H2 σ _ (r.grow (g1.trans g2)) (q.mono (g1.trans g2).s) fun ps Hs3 H3 g3 p3 => k _ Hs3 H3 ((g1.trans g2).trans g3) (.cons ⟨dp_str p1, dp_mono g3.s p2⟩ p3)
theorem keyed {K : Fg} {Hs : Hp} {ps : List (V × V)} {kvs : List (Str × α)} (h : Paired (fun (p : V × V) (q : Str × α) => p.1 = .str q.1 ∧ Dq K Hs p.2 (f q.2)) ps kvs) : ∃ vs : List (Key × V), ps = vs.map (fun kv => (kV kv.1, kv.2)) ∧ Paired (PairD K Hs f) vs kvs := by
  induction kvs generalizing ps with
  | nil => cases h; exact ⟨[], rfl, .nil⟩
  | cons q kvs ih =>
    cases h with
    | @cons p _ _ _ a y =>
      obtain ⟨vs, e1, e2⟩ := ih y
      refine ⟨(Sum.inr q.1, p.2) :: vs, ?_, .cons ⟨rfl, a.2⟩ e2⟩
      rw [e1, List.map_cons]
      congr 1
      exact Prod.ext a.1 rfl
theorem merge_rel {K : Fg} {Hs : Hp} {vs : List (Key × V)} {kvs : List (Str × α)} (h : Paired (PairD K Hs f) vs kvs) : ∀ {ws : List (Key × V)} {ls : List (Str × α)}, Paired (PairD K Hs f) ws ls → Paired (PairD K Hs f) (mergeK ws vs) (kvs.foldl (fun acc kv => putA acc kv.1 kv.2) ls) := by
  induction kvs generalizing vs with
  | nil => cases h; exact fun r => r
  | cons q kvs ih =>
    cases h with
    | @cons p _ _ _ a y =>
      intro ws ls r
      show Paired (PairD K Hs f) (mergeK (putK ws p.1 p.2) _) (List.foldl _ (putA ls q.1 q.2) kvs)
      rw [a.1]
      exact ih y (put_rel r q.1 a.2)
theorem pn_disp {keys : List (Option Expr)} {values : List Expr} (h : PPD X ρ M f keys values kvs) (h0 : keys ≠ []) (h15 : keys.length ≤ 15) : PN X (.Dict keys values pos) ρ M (dctF f (mergeA kvs)) := by
  obtain ⟨trs, h1, h2, h3, h4, h5⟩ := h.trs (pos := pos)
  refine ⟨fun Hs H σ Q r q k => PE.w (pe_disp h1 h2 h3 h0 h15) fun p hp => ?_⟩
  have gn : Grow Hs H Hs (upd H p (.dK [])) := .newH r.i hp
  refine h5 Hs _ σ _ (r.grow gn) q fun ps Hs1 H1 g1 rel => ?_
  obtain ⟨vs, e1, e2⟩ := keyed rel
  have n0 : Hs p = none := r.i.free hp
  have n1 : Hs1 p = none := g1.n p n0 (by rw [upd_same]; intro z; cases z)
  refine ⟨g1.h _ _ upd_same, vs, e1, by rw [Paired.length e2, ← h4]; exact h15, ?_⟩
  have gg := gn.trans g1
  refine k p _ Hs1 _ ⟨fun b o e => ?_, gg.s, fun b o e => ?_, gg.n⟩ hp n1 upd_same (dct_rep (merge_rel e2 .nil))
  · rw [upd_ne (ne_of_none e hp)]; exact gg.h b o e
  · rw [upd_ne (ne_of_none e n1)]; exact g1.i b o e
end
end AB
namespace AB
open PySem L2
/-! ### t[::-1] -/
section
variable {prog : Program} {w : World} {A : Around} {E : Value → Shared → Prop} {s : Shared}
theorem adjust_rev (n : Nat) : Builtin.Slice.sliceAdjust none none (-1) (n : Int) = ((n : Int) - 1, -1) := by
  unfold Builtin.Slice.sliceAdjust
  rfl
theorem places_rev (n : Nat) : Builtin.Slice.slicePlaces ((n : Int) - 1) (-1) (-1) = n := by
  unfold Builtin.Slice.slicePlaces
  rw [if_neg (by decide), show -(-1 : Int) = 1 from rfl, Int.ediv_one]
  split <;> omega
theorem fm_congr {α β : Type} {f g : α → Option β} : ∀ (l : List α), (∀ m ∈ l, f m = g m) → l.filterMap f = l.filterMap g
  | [], _ => rfl
  | a :: l, h => by rw [List.filterMap_cons, List.filterMap_cons, h a List.mem_cons_self, fm_congr l fun m hm => h m (List.mem_cons_of_mem _ hm)]
theorem pick_rev (xs : Array Value) : ((List.range xs.size).filterMap fun (m : Nat) => xs[((xs.size : Int) - 1 + (m : Int) * (-1)).toNat]?).toArray = xs.toList.reverse.toArray := by
  congr 1
  have e : (List.range xs.size).filterMap (fun (m : Nat) => xs[((xs.size : Int) - 1 + (m : Int) * (-1)).toNat]?) = (List.range xs.size).filterMap (fun m => xs.toList.reverse[m]?) := by
    refine fm_congr _ fun m hm => ?_
    rw [List.mem_range] at hm
    have e1 : ((xs.size : Int) - 1 + (m : Int) * (-1)).toNat = xs.size - 1 - m := by omega
    rw [e1, List.getElem?_reverse (by simpa using hm), Array.length_toList, Array.getElem?_toList]
  rw [e]
  have : ∀ l : List Value, (List.range l.length).filterMap (fun m => l[m]?) = l := by
    intro l
    induction l with
    | nil => rfl
    | cons a l ih =>
      rw [List.length_cons, List.range_succ_eq_map, List.filterMap_cons, List.filterMap_map]
      show a :: List.filterMap (fun m => (a :: l)[m + 1]?) (List.range l.length) = a :: l
      congr 1
  have h := this xs.toList.reverse
  rw [List.length_reverse, Array.length_toList] at h
  exact h
theorem getItem_tuple_rev {t sl : Addr} {items : Array Value} {tk : Tok} {Q : Value → Shared → Prop} (ht : PyProof.Rows.IsTup s.heap t items) (hs : s.heap.IsSliceOf sl .none .none (.int (-1) tk))
    (h : Q (.ref s.heap.objs.size) { s with heap := s.heap.push { cls := .type "tuple", data := .seq items.toList.reverse.toArray } }) (hsz : items.size ≤ sizeLine) : wpAny (model prog w) A (getItem (.ref t) (.ref sl)) Q E s := by
  have htake : sizeOk (.seq items.toList.reverse.toArray) := by
    show items.toList.reverse.toArray.size ≤ sizeLine
    rw [List.size_toArray, List.length_reverse, Array.length_toList]
    exact hsz
  obtain ⟨os, hos, hcs, hds⟩ := id hs
  have hTs : s.TypeIs (.ref sl) "slice" := ⟨os, hos, hcs⟩
  unfold getItem
  try with_reducible refine wpAny_holding ?_
  first | refine wpAny_bind (wpAny_pure ?_) | skip
  refine wpAny_bind (wpAny_sequenceKey ht.typeIs (by decide) ?_)
  refine wpAny_bind (wpAny_callSpecial?_slot (name := Str.ofString "__getitem__") ht.typeIs PyProof.Rows.slot_tuple_getitem
    (wpAny_call_entry PyProof.Rows.slot_tuple_getitem ht.typeIs PyProof.Rows.entry_tuple_getitem ?_ (PyProof.Rows.args_tuple_getitem _ _)))
  show wpAny _ _ (Builtin.Tuple.tupleItemsOf (.ref t) >>= _) _ _ s
  refine wpAny_bind (PyProof.Rows.tupleItemsOf_ ht ?_)
  refine wpAny_bind (wpAny_typeOf hTs ?_)
  rw [if_pos (by decide)]
  refine wpAny_bind ?_
  unfold Builtin.Slice.sliceApplied Builtin.Slice.sliceFields
  refine wpAny_bind (wpAny_bind (wpAny_field hos hds (x := .none) rfl (wpAny_bind (wpAny_field hos hds (x := .none) rfl (wpAny_bind (wpAny_field hos hds (x := .int (-1) tk) rfl (wpAny_pure ?_)))))))
  refine wpAny_bind (PyProof.Rows.slicePart_int ?_)
  show wpAny _ _ (if ((-1 : Int) == 0) = true then _ else _) _ _ s
  rw [if_neg (by decide)]
  refine wpAny_bind (PyProof.Rows.slicePart_none (wpAny_bind (PyProof.Rows.slicePart_none (wpAny_bind (wpAny_pure ?_)))))
  show wpAny _ _ (match Builtin.Slice.sliceAdjust none none (-1) (items.size : Int) with | (lo, hi) => pure (lo, (-1 : Int), Builtin.Slice.slicePlaces lo hi (-1))) _ _ s
  rw [adjust_rev]
  show wpAny _ _ (pure ((items.size : Int) - 1, (-1 : Int), Builtin.Slice.slicePlaces ((items.size : Int) - 1) (-1) (-1))) _ _ s
  rw [places_rev]
  refine wpAny_pure ?_
  show wpAny _ _ (if ((((items.size : Int) - 1) == 0) && ((-1 : Int) == 1) && (items.size == items.size)) = true then _ else _) _ _ s
  rw [if_neg (by simp), pick_rev]
  first
    | exact wpAny_bind (m := Builtin.Tuple.tupleExact _) (wpAny_newObj_type (wpAny_pure ⟨_, rfl, wpAny_pure h⟩) htake)
    | exact wpAny_bind (m := Builtin.Tuple.tupleExact _) (wpAny_newObj_type (wpAny_bind (wpAny_pure (wpAny_pure ⟨_, rfl, wpAny_pure h⟩))) htake)
    | exact wpAny_bind (wpAny_bind (m := Builtin.Tuple.tupleExact _) (wpAny_newObj_type (wpAny_pure (wpAny_pure ⟨_, rfl, wpAny_pure h⟩)) htake))
    | exact wpAny_bind (wpAny_bind (m := Builtin.Tuple.tupleExact _) (wpAny_newObj_type (wpAny_pure ⟨_, rfl, wpAny_pure h⟩) htake))
end
section
variable {X : Cx} {e a b : Expr} {ρ : Env} {M : Mem} {pos : Pos} {d : D} {ds : List D}
def tRevT (K : Fg) (te : TE) : TE := fun σ H Q => te σ H fun x H1 => ∃ a xs, x = .ref a ∧ SqT K H1 a xs ∧ ∀ p o, H1 p = none → o.dict = none → Q (.ref p) (upd H1 p (.frz o (.tup xs.reverse)))
theorem pe_revT {te : TE} {k : Nat} {p1 p2 p3 pos : Pos} (he : PE X e te) : PE X (.Subscript e (.Slice none none (some (.UnaryOp .USub (.Constant (.int 1) k p1) p2)) p3) pos) (tRevT X.K te) := by
  refine ⟨fun pins s σ H Q I h => ?_⟩
  refine PyProof.Rows.Subscript_ (thn (he.run pins s σ H _ I h) fun v s1 ⟨x, H1, I1, r1, q1⟩ => ?_)
  obtain ⟨a, xs, ex, hx, q⟩ := q1
  subst ex
  cases r1
  have hst : PO X (some (.UnaryOp .USub (.Constant (.int 1) k p1) p2)) (tPart (tUn (rU fun i => .int (-i)) (tC (.int 1)))) := po_some (pe_un un_neg pe_int)
  refine wpAny_Slice (thn (po_none.run pins s1 σ H1 (fun o H2 => o = none ∧ H2 = H1) I1 ⟨rfl, rfl⟩) fun vl s2 ⟨l, H2, I2, pl, el, e2⟩ => ?_)
  subst el e2
  refine thn (po_none.run pins s2 σ H2 (fun o H3 => o = none ∧ H3 = H2) I2 ⟨rfl, rfl⟩) fun vu s3 ⟨u, H3, I3, pu, eu, e3⟩ => ?_
  subst eu e3
  refine thn (hst.run pins s3 σ H3 (fun o H4 => o = some (-1) ∧ H4 = H3) I3 ⟨1, rfl, -1, rfl, rfl, rfl⟩) fun vs s4 ⟨o, H4, I4, ps, eo, e4⟩ => ?_
  subst eo e4
  have I5 : Inv X pins σ H4 { s4 with heap := s4.heap.push { cls := .type "slice", data := .fields #[vl, vu, vs] } } := I4.kept (t' := s4.toks) fun b ob q => Heap.get?_push_of_some _ q
  obtain ⟨its, r, ht, hz⟩ := I5.tuple hx
  have hlen := r.length
  cases pl
  cases pu
  cases ps
  show wpAny (model X.prog X.w) X.A (PyProof.Rows.subscriptTail e (.Slice none none (some (.UnaryOp .USub (.Constant (.int 1) k p1) p2)) p3) (.ref a) (.ref s4.heap.objs.size)) (EP X pins σ Q) X.xe _
  refine PyProof.Rows.tail_any (ops := [.ref a, .ref s4.heap.objs.size]) ht.typeIs (PyProof.Rows.slot_tuple_getitem.lookup) ?_ (by with_unfolding_all rfl)
  refine getItem_tuple_rev ht (Heap.IsSliceOf.new _ _ _ _) ?_ (by rw [List.size_toArray]; omega)
  exact laidT (s := s4) (h' := s4.heap.push { cls := .type "slice", data := .fields #[_, _, _] }) I5 r.reverse (by rw [List.length_reverse]; exact hz) q
theorem pd_revT {k : Nat} {p1 p2 p3 : Pos} (ha : PD X e ρ M (.tuple ds)) : PD X (.Subscript e (.Slice none none (some (.UnaryOp .USub (.Constant (.int 1) k p1) p2)) p3) pos) ρ M (.tuple ds.reverse) :=
  pd_of (pe_revT pe_w) fun Hs H σ Q i q kk => ha.run Hs H σ _ i q fun v Hs1 H1 g1 p1 => by
    obtain ⟨a, vs, rfl, h1, h2⟩ := dp_tup p1
    exact ⟨a, vs, rfl, (h1.mono g1.i).sq, fun p o hp ho => kk _ _ _ (g1.trans (.new g1.i hp)) (.tup (.of upd_same ho) (dpAll_mono (same_upd (g1.i.free hp)) h2.rev))⟩
theorem pd_revL {k : Nat} {p1 p2 p3 : Pos} (ha : PD X e ρ M (.list ds)) : PD X (.Subscript e (.Slice none none (some (.UnaryOp .USub (.Constant (.int 1) k p1) p2)) p3) pos) ρ M (.list ds.reverse) :=
  pd_of (pe_revL pe_w) fun Hs H σ Q i q kk => ha.run Hs H σ _ i q fun v Hs1 H1 g1 p1 => by
    obtain ⟨a, vs, rfl, h1, h2⟩ := dp_lst p1
    exact ⟨a, vs, rfl, g1.i.seq h1, fun p hp => kk _ _ _ (g1.trans (.new g1.i hp)) (.lst (.of upd_same) (dpAll_mono (same_upd (g1.i.free hp)) h2.rev))⟩
/-- t * 2, t not empty -/
def rTwice (K : Fg) : R2 := fun x y H Q => ∃ l xs, x = .ref l ∧ y = .int 2 ∧ SqT K H l xs ∧ xs ≠ [] ∧ xs.length ≤ 1000 ∧ ∀ p o, H p = none → o.dict = none → Q (.ref p) (upd H p (.frz o (.tup (xs ++ xs))))
theorem op_twice : OpR X (binaryOp .Mult) (rTwice X.K) := by
  intro pins s σ H x y v u Q I rx ry h
  obtain ⟨l, xs, rfl, rfl, hT, hne, hz, q⟩ := h
  cases rx
  obtain ⟨t, rfl⟩ := ry
  obtain ⟨its, r, ⟨⟨cls, dd, data, sl⟩, ho, hc, n, hd⟩, hs⟩ := I.tuple hT
  simp only at hc hd
  subst hc hd
  have hle : its.length = xs.length := r.length.symm
  have hi : its.toArray.isEmpty = false := by
    cases its with
    | nil => exact absurd (List.eq_nil_of_length_eq_zero hle.symm) hne
    | cons a b => rfl
  have hsz0 : its.toArray.size = xs.length := by rw [List.size_toArray, hle]
  have e2 : (List.replicate (2 : Int).toNat its).flatten = its ++ its := by
    show its ++ (its ++ []) = _
    rw [List.append_nil]
  have c1 : (its.toArray.isEmpty || (2 : Int) == 1) = false := by rw [hi]; rfl
  have c2 : (decide ((2 : Int) ≤ 0) || its.toArray.isEmpty) = false := by rw [hi]; rfl
  have c3 : ¬ ((its.toArray.size : Nat) : Int) * 2 > (2 ^ 63 - 1) / 8 := by rw [hsz0]; omega
  have c4 : Builtin.Tuple.tupleTooMany (((its.toArray.size : Nat) : Int) * 2) = false := by
    unfold Builtin.Tuple.tupleTooMany
    rw [hsz0, show sizeLine = 16777216 from rfl]
    exact decide_eq_false (by omega)
  have flen : (its ++ its).toArray.size ≤ sizeLine := by
    rw [List.size_toArray, List.length_append, hle, show sizeLine = 16777216 from rfl]; omega
  refine wpAny_binaryOp_repeat_ref (T := "tuple") (U := "int") (by decide) ⟨_, ho, rfl⟩ (fun s' => typeIs_int s' 2 t) noFill_tuple_mul F.fills_int_mul F.slot_int_rmul repeat_tuple F.slot_int_index.lookup
    (call_meets F.slot_int_rmul (typeIs_int s 2 t) F.entry_int_rmul (F.args_int_rmul_2 _ _) (int_rmul_tuple 2 t l its.toArray n dd sl)
      ⟨ho, rfl, ⟨_, ho, rfl⟩, call_meets F.slot_tuple_mul ⟨_, ho, rfl⟩ F.entry_tuple_mul (F.args_tuple_mul_2 _ _) (tuple_mulW l its.toArray n dd sl 2 t rfl c1 c2 c3 c4 (by rw [size_rep, e2]; exact flen)) ⟨ho, ?_⟩⟩)
  rw [size_rep, e2]
  exact laidT (s := s) (h' := s.heap) I (r.append r) (by rw [List.length_append, show sizeLine = 16777216 from rfl]; omega) q
theorem pd_twice (ha : PD X a ρ M (.tuple ds)) (hb : PD X b ρ M (.int 2)) (hne : ds ≠ []) (hz : ds.length ≤ 1000) : PD X (.BinOp a .Mult b pos) ρ M (.tuple (ds ++ ds)) := pd_op op_twice (fun Hs H v u Q s p q k => by
  obtain ⟨a, vs, rfl, ha, pa⟩ := dp_tup p
  refine ⟨a, vs, rfl, dp_int q, (ha.mono s).sq, fun z => ?_, by rw [pa.len]; exact hz, fun p o hp ho => k _ _ _ (.new s hp) (.tup (.of upd_same ho) (dpAll_mono (same_upd (s.free hp)) (pa.app pa)))⟩
  subst z
  cases pa
  exact hne rfl) ha hb
end
end AB
namespace AB
open PySem L2
/-! ### changes, books: what they are, and as data -/
inductive Chg where
  | put (k : Str) (w : Int)
  | add (k : Str) (w : Int)
  | keep (k : Str) (w : Int)
  | drop (k : Str)
  | move (a b : Str)
  deriving DecidableEq
abbrev Book := List (Str × Int)
def dChg : Chg → D
  | .put k w => .tuple [.str "put", .str k, .int w]
  | .add k w => .tuple [.str "add", .str k, .int w]
  | .keep k w => .tuple [.str "keep", .str k, .int w]
  | .drop k => .tuple [.str "drop", .str k]
  | .move a b => .tuple [.str "move", .str a, .str b]
def dRow (r : List Chg) : D := .tuple (r.map dChg)
def dPair (p : Str × Int) : D := .tuple [.str p.1, .int p.2]
def dBook (b : Book) : D := .tuple (b.map dPair)
/-! ### the law's draws of them -/
def keyN (i : Int) : Str := ⟨#[97 + i.toNat]⟩
def wsel (i : Int) : Int := if i = 1 then 3 else if i = 3 then 2 else 1000
def lawChange (n many : Int) : Chg :=
  if n % 8 = 0 then .move (keyN (n / 8 % many)) (keyN (n / 64 % many))
  else if n % 8 = 1 then .drop (keyN (n / 8 % many))
  else if n % 8 % 3 = 0 then .put (keyN (n / 8 % many)) (n / 512 % wsel (n / 16 % 4))
  else if n % 8 % 3 = 1 then .add (keyN (n / 8 % many)) (n / 512 % wsel (n / 16 % 4))
  else .keep (keyN (n / 8 % many)) (n / 512 % wsel (n / 16 % 4))
def lawRow (n most : Int) : List Chg := (List.range (n / 4 % (most + 1)).toNat).map fun k => lawChange (drawn n (k : Nat) / 4) (1 + n % 4)
def bookAt (n : Int) (k : Nat) : Option (Str × Int) :=
  if drawn n (60 + (k : Nat)) / 4 % 3 > 0 then some (keyN (k : Nat), drawn n (60 + (k : Nat)) / 4 / 4 % (if drawn n (60 + (k : Nat)) / 4 / 16 % 2 = 0 then 1000 else 3)) else none
def lawBook (n : Int) : Book := (List.range 4).filterMap (bookAt n)
def FChange : List D → D → Prop := fun ds d => ∃ (n many : Int), ds = [.int n, .int many] ∧ 0 ≤ n ∧ 1 ≤ many ∧ many ≤ 4 ∧ d = dChg (lawChange n many)
def FRow : List D → D → Prop := fun ds d => ∃ (n most : Int), ds = [.int n, .int most] ∧ 0 ≤ n ∧ 0 ≤ most ∧ most ≤ 100 ∧ d = dRow (lawRow n most)
def FBook : List D → D → Prop := fun ds d => ∃ (n : Int), ds = [.int n] ∧ d = dBook (lawBook n)
/-! ### places in written texts and tuples -/
theorem int4 {i : Int} (h0 : 0 ≤ i) (h1 : i < 4) : i = 0 ∨ i = 1 ∨ i = 2 ∨ i = 3 := by omega
theorem abcd_at {i : Int} (h0 : 0 ≤ i) (h1 : i < 4) : atI (("abcd" : Str).cps.toList) i = some (97 + i.toNat) := by
  rcases int4 h0 h1 with rfl | rfl | rfl | rfl <;> decide +kernel
theorem wsel_at {i : Int} (h0 : 0 ≤ i) (h1 : i < 4) : atI [(.int 1000 : D), .int 3, .int 1000, .int 2] i = some (.int (wsel i)) := by
  rcases int4 h0 h1 with rfl | rfl | rfl | rfl <;> rfl
theorem wsel_pos (i : Int) : 0 < wsel i := by unfold wsel; split <;> (try split) <;> decide
theorem wsel_le (i : Int) : wsel i ≤ 1000 := by unfold wsel; split <;> (try split) <;> decide
theorem atI_0 {α : Type} (x : α) (r : List α) : atI (x :: r) 0 = some x := by
  unfold atI ixN
  rw [if_pos (by decide), if_pos (by simp only [List.length_cons]; omega)]; rfl
theorem atI_1 {α : Type} (x y : α) (r : List α) : atI (x :: y :: r) 1 = some y := by
  unfold atI ixN
  rw [if_pos (by decide), if_pos (by simp only [List.length_cons]; omega)]; rfl
theorem atI_2 {α : Type} (x y z : α) (r : List α) : atI (x :: y :: z :: r) 2 = some z := by
  unfold atI ixN
  rw [if_pos (by decide), if_pos (by simp only [List.length_cons]; omega)]; rfl
theorem abcd_len : (("abcd" : Str)).length ≤ sizeLine := by decide +kernel
theorem abcd_signs : signsD "abcd" = [.str (keyN 0), .str (keyN 1), .str (keyN 2), .str (keyN 3)] := by
  unfold signsD
  rw [show ("abcd" : Str).cps.toList = [97, 98, 99, 100] by decide +kernel]
  rfl
end AB
namespace AB
open PySem L2
/-! ### module constants -/
def GS (mg : Str → Option Value) (x v : Str) : Prop := ∃ t, mg x = some (.str v t)
def GI (mg : Str → Option Value) (x : Str) (i : Int) : Prop := ∃ t, mg x = some (.int i t)
def GT (K : Fg) (mg : Str → Option Value) (x : Str) (ds : List D) : Prop := ∃ a, mg x = some (.ref a) ∧ ∀ H, Dq K H (.ref a) (.tuple ds)
section
variable {X : Cx} {ρ : Env} {M : Mem} {pos : Pos}
theorem pd_gs {x v : Str} (g : GS X.mg x v) (hg : Gl X x) (hd : (x == ("__debug__" : Str)) = false := by decide) : PD X (.Name x pos) ρ M (.str v) := by
  obtain ⟨t, h⟩ := g
  exact pd_glob (v := .str v) hg h ⟨t, rfl⟩ (fun _ => .str _) hd
theorem pd_gi {x : Str} {i : Int} (g : GI X.mg x i) (hg : Gl X x) (hd : (x == ("__debug__" : Str)) = false := by decide) : PD X (.Name x pos) ρ M (.int i) := by
  obtain ⟨t, h⟩ := g
  exact pd_glob (v := .int i) hg h ⟨t, rfl⟩ (fun _ => .int _) hd
theorem pd_gt {x : Str} {ds : List D} (g : GT X.K X.mg x ds) (hg : Gl X x) (hd : (x == ("__debug__" : Str)) = false := by decide) : PD X (.Name x pos) ρ M (.tuple ds) := by
  obtain ⟨a, h, q⟩ := g
  exact pd_glob (v := .ref a) hg h rfl q hd
/-- one sign in a text -/
theorem pd_inSign {a b : Expr} {c : Nat} {z : Str} (ha : PD X a ρ M (.str ⟨#[c]⟩)) (hb : PD X b ρ M (.str z)) (hm : behindInMarks .In b = false := by rfl) : PD X (.Compare a [.In] [b] pos) ρ M (.bool (decide (c ∈ z.cps.toList))) :=
  pd_cmp op_in_sign (fun Hs H v u Q s p q k => ⟨c, z, dp_str p, dp_str q, k _ Hs H (.refl s) (.bl _)⟩) ha hb hm
end
/-! ### kinds -/
def isStrD : D → Bool | .str _ => true | _ => false
def isIntD : D → Bool | .int _ => true | .bool _ => true | _ => false
def isBoolD : D → Bool | .bool _ => true | _ => false
def isTupD : D → Bool | .tuple _ => true | _ => false
def isLstD : D → Bool | .list _ => true | _ => false
theorem kit_str (d : D) : kitB (tyN d) "str" = some (isStrD d) := by
  cases d
  · show kitB "NoneType" "str" = some false; decide +kernel
  · show kitB "bool" "str" = some false; decide +kernel
  · show kitB "int" "str" = some false; decide +kernel
  · show kitB "str" "str" = some true; decide +kernel
  · show kitB "list" "str" = some false; decide +kernel
  · show kitB "tuple" "str" = some false; decide +kernel
  · show kitB "dict" "str" = some false; decide +kernel
theorem kit_int (d : D) : kitB (tyN d) "int" = some (isIntD d) := by
  cases d
  · show kitB "NoneType" "int" = some false; decide +kernel
  · show kitB "bool" "int" = some true; decide +kernel
  · show kitB "int" "int" = some true; decide +kernel
  · show kitB "str" "int" = some false; decide +kernel
  · show kitB "list" "int" = some false; decide +kernel
  · show kitB "tuple" "int" = some false; decide +kernel
  · show kitB "dict" "int" = some false; decide +kernel
theorem kit_bool (d : D) : kitB (tyN d) "bool" = some (isBoolD d) := by
  cases d
  · show kitB "NoneType" "bool" = some false; decide +kernel
  · show kitB "bool" "bool" = some true; decide +kernel
  · show kitB "int" "bool" = some false; decide +kernel
  · show kitB "str" "bool" = some false; decide +kernel
  · show kitB "list" "bool" = some false; decide +kernel
  · show kitB "tuple" "bool" = some false; decide +kernel
  · show kitB "dict" "bool" = some false; decide +kernel
theorem kit_tup (d : D) : kitB (tyN d) "tuple" = some (isTupD d) := by
  cases d
  · show kitB "NoneType" "tuple" = some false; decide +kernel
  · show kitB "bool" "tuple" = some false; decide +kernel
  · show kitB "int" "tuple" = some false; decide +kernel
  · show kitB "str" "tuple" = some false; decide +kernel
  · show kitB "list" "tuple" = some false; decide +kernel
  · show kitB "tuple" "tuple" = some true; decide +kernel
  · show kitB "dict" "tuple" = some false; decide +kernel
section
variable {X : Cx} {ρ : Env} {M : Mem} {pos p p2 : Pos} {e : Expr} {d : D}
theorem pd_isStr (B : Bt X.mg) (ha : PD X e ρ M d) (hg : Gl X "isinstance" := by rfl) (hg2 : Gl X "str" := by rfl) (hs : starEach [e, .Name "str" p2] X.env = (false, eval e X.env) :: starEach [.Name "str" p2] X.env := by rfl) : PD X (.Call (.Name "isinstance" p) [e, .Name "str" p2] [] pos) ρ M (.bool (isStrD d)) := pd_isi hg B.isi hg2 B.str boot_str ha (kit_str d) hs
theorem pd_isInt (B : Bt X.mg) (ha : PD X e ρ M d) (hg : Gl X "isinstance" := by rfl) (hg2 : Gl X "int" := by rfl) (hs : starEach [e, .Name "int" p2] X.env = (false, eval e X.env) :: starEach [.Name "int" p2] X.env := by rfl) : PD X (.Call (.Name "isinstance" p) [e, .Name "int" p2] [] pos) ρ M (.bool (isIntD d)) := pd_isi hg B.isi hg2 B.int boot_int ha (kit_int d) hs
theorem pd_isBool (B : Bt X.mg) (ha : PD X e ρ M d) (hg : Gl X "isinstance" := by rfl) (hg2 : Gl X "bool" := by rfl) (hs : starEach [e, .Name "bool" p2] X.env = (false, eval e X.env) :: starEach [.Name "bool" p2] X.env := by rfl) : PD X (.Call (.Name "isinstance" p) [e, .Name "bool" p2] [] pos) ρ M (.bool (isBoolD d)) := pd_isi hg B.isi hg2 B.bool boot_bool ha (kit_bool d) hs
theorem pd_isTup (B : Bt X.mg) (ha : PD X e ρ M d) (hg : Gl X "isinstance" := by rfl) (hg2 : Gl X "tuple" := by rfl) (hs : starEach [e, .Name "tuple" p2] X.env = (false, eval e X.env) :: starEach [.Name "tuple" p2] X.env := by rfl) : PD X (.Call (.Name "isinstance" p) [e, .Name "tuple" p2] [] pos) ρ M (.bool (isTupD d)) := pd_isi hg B.isi hg2 B.tuple boot_tuple ha (kit_tup d) hs
end
/-! ### data of a bounded size -/
def okD : Nat → D → Prop
  | _, .none => True
  | _, .bool _ => True
  | _, .int _ => True
  | _, .str s => PyData.strOk s = true ∧ s.length ≤ 1000
  | n, .tuple ds => match n with | 0 => False | n + 1 => ds.length ≤ 1000 ∧ ∀ d ∈ ds, okD n d
  | n, .list ds => match n with | 0 => False | n + 1 => ds.length ≤ 1000 ∧ ∀ d ∈ ds, okD n d
  | _, .dict _ => False
theorem okD_succ : ∀ (n : Nat) (d : D), okD n d → okD (n + 1) d
  | n, .none, _ => by cases n <;> trivial
  | n, .bool _, _ => by cases n <;> trivial
  | n, .int _, _ => by cases n <;> trivial
  | n, .str s, h => by cases n <;> simpa [okD] using h
  | 0, .tuple ds, h => by simp [okD] at h
  | 0, .list ds, h => by simp [okD] at h
  | n + 1, .tuple ds, h => by
    simp only [okD] at h ⊢
    exact ⟨h.1, fun d hd => okD_succ n d (h.2 d hd)⟩
  | n + 1, .list ds, h => by
    simp only [okD] at h ⊢
    exact ⟨h.1, fun d hd => okD_succ n d (h.2 d hd)⟩
  | n, .dict _, h => by cases n <;> simp [okD] at h
theorem okD_le {n m : Nat} {d : D} (h : okD n d) (hm : n ≤ m) : okD m d := by
  induction m with
  | zero => cases Nat.le_zero.mp hm; exact h
  | succ m ih =>
    by_cases e : n = m + 1
    · subst e; exact h
    · exact okD_succ m d (ih (by omega))
theorem okD_tup {n : Nat} {ds : List D} (hl : ds.length ≤ 1000) (h : ∀ d ∈ ds, okD n d) : okD (n + 1) (.tuple ds) := by simp only [okD]; exact ⟨hl, h⟩
theorem okD_lst {n : Nat} {ds : List D} (hl : ds.length ≤ 1000) (h : ∀ d ∈ ds, okD n d) : okD (n + 1) (.list ds) := by simp only [okD]; exact ⟨hl, h⟩
theorem okD_tup' {n : Nat} {ds : List D} (h : okD n (.tuple ds)) : ds.length ≤ 1000 ∧ ∃ m, n = m + 1 ∧ ∀ d ∈ ds, okD m d := by
  cases n with
  | zero => simp [okD] at h
  | succ n => simp only [okD] at h; exact ⟨h.1, n, rfl, h.2⟩
theorem okD_lst' {n : Nat} {ds : List D} (h : okD n (.list ds)) : ds.length ≤ 1000 ∧ ∃ m, n = m + 1 ∧ ∀ d ∈ ds, okD m d := by
  cases n with
  | zero => simp [okD] at h
  | succ n => simp only [okD] at h; exact ⟨h.1, n, rfl, h.2⟩
theorem okD_str {n : Nat} {s : Str} (h : okD n (.str s)) : PyData.strOk s = true ∧ s.length ≤ 1000 := by cases n <;> simpa [okD] using h
theorem okD_str' {n : Nat} {s : Str} (h1 : PyData.strOk s = true) (h2 : s.length ≤ 1000) : okD n (.str s) := by cases n <;> exact ⟨h1, h2⟩
theorem okD_int {n : Nat} {i : Int} : okD n (.int i) := by cases n <;> trivial
theorem okD_bool {n : Nat} {i : Bool} : okD n (.bool i) := by cases n <;> trivial
theorem okD_none {n : Nat} : okD n .none := by cases n <;> trivial
mutual
theorem lay_of_ok : ∀ (n : Nat) (d : D), okD n d → d.canLay0 = true ∧ d.depth ≤ n
  | n, .none, _ => ⟨rfl, Nat.zero_le _⟩
  | n, .bool _, _ => ⟨rfl, Nat.zero_le _⟩
  | n, .int _, _ => ⟨rfl, Nat.zero_le _⟩
  | n, .str s, h => ⟨by simpa [PyData.canLay0] using (okD_str h).1, Nat.zero_le _⟩
  | 0, .tuple ds, h => by simp [okD] at h
  | 0, .list ds, h => by simp [okD] at h
  | n + 1, .tuple ds, h => by
    simp only [okD] at h
    have := layAll_of_ok n ds h.2
    exact ⟨by simpa [PyData.canLay0] using this.1, by simp only [PyData.depth]; omega⟩
  | n + 1, .list ds, h => by
    simp only [okD] at h
    have := layAll_of_ok n ds h.2
    exact ⟨by simpa [PyData.canLay0] using this.1, by simp only [PyData.depth]; omega⟩
  | n, .dict _, h => by cases n <;> simp [okD] at h
theorem layAll_of_ok : ∀ (n : Nat) (ds : List D), (∀ d ∈ ds, okD n d) → PyData.canLayAll0 ds = true ∧ PyData.depthAll ds ≤ n
  | n, [], _ => ⟨rfl, Nat.zero_le _⟩
  | n, d :: ds, h => by
    have h1 := lay_of_ok n d (h d List.mem_cons_self)
    have h2 := layAll_of_ok n ds fun x hx => h x (List.mem_cons_of_mem _ hx)
    refine ⟨?_, ?_⟩
    · simp only [PyData.canLayAll0, h1.1, h2.1, Bool.and_self]
    · simp only [PyData.depthAll]; omega
end
theorem shaped_ok {n : Nat} {d : D} (h : okD n d) (hn : n ≤ 60) : SeqAt.shaped d = true := by
  have := lay_of_ok n d h
  unfold SeqAt.shaped
  rw [this.1, Bool.true_and]
  exact decide_eq_true (by omega)
theorem okD_refl {n : Nat} {d : D} (h : okD n d) : PyData.eqv d d = true := SeqAt.eqv_refl d (lay_of_ok n d h).1
theorem len_ok {n : Nat} {s : Str} (h : okD n (.str s)) : s.length ≤ sizeLine := Nat.le_trans (okD_str h).2 (by decide)
/-! ### keys, worths, books, changes: what the law and the program tell -/
def lowC (c : Nat) : Bool := decide (97 ≤ c) && decide (c ≤ 122)
def isKeyS (s : Str) : Bool := decide (1 ≤ (s.length : Int)) && decide ((s.length : Int) ≤ 4) && s.cps.toList.all lowC
def isKeyD : D → Bool
  | .str s => isKeyS s
  | _ => false
def isWorthD : D → Bool
  | .int i => decide (0 ≤ i) && decide (i < 1000)
  | _ => false
def isPairD : D → Bool
  | .tuple [a, b] => isKeyD a && isWorthD b
  | _ => false
def ltS (s t : Str) : Bool := decide (s.cps.toList < t.cps.toList)
/-- of two pairs: the first one's key is less -/
def ltP : D → D → Bool
  | .tuple (.str s :: _), .tuple (.str t :: _) => ltS s t
  | _, _ => false
def risingD : List D → Bool
  | x :: y :: r => ltP x y && risingD (y :: r)
  | _ => true
def isBookD : D → Bool
  | .tuple ds => ds.all isPairD && risingD ds
  | _ => false
def isChangeD : D → Bool
  | .tuple [.str w, k] => isKeyD k && decide (w = "drop")
  | .tuple [.str w, k, x] => isKeyD k && ((decide (w = "move") && isKeyD x) || ((decide (w = "put") || decide (w = "add") || decide (w = "keep")) && isWorthD x))
  | _ => false
def letters : Str := "abcdefghijklmnopqrstuvwxyz"
theorem letters_list : letters.cps.toList = [97, 98, 99, 100, 101, 102, 103, 104, 105, 106, 107, 108, 109, 110, 111, 112, 113, 114, 115, 116, 117, 118, 119, 120, 121, 122] := by decide +kernel
theorem low_letters (c : Nat) : decide (c ∈ letters.cps.toList) = lowC c := by
  rw [letters_list]
  unfold lowC
  by_cases h : 97 ≤ c ∧ c ≤ 122
  · have : c ∈ [97, 98, 99, 100, 101, 102, 103, 104, 105, 106, 107, 108, 109, 110, 111, 112, 113, 114, 115, 116, 117, 118, 119, 120, 121, 122] := by
      simp only [List.mem_cons, List.not_mem_nil, or_false]; omega
    rw [decide_eq_true this, decide_eq_true h.1, decide_eq_true h.2]; rfl
  · have : ¬ c ∈ [97, 98, 99, 100, 101, 102, 103, 104, 105, 106, 107, 108, 109, 110, 111, 112, 113, 114, 115, 116, 117, 118, 119, 120, 121, 122] := by
      simp only [List.mem_cons, List.not_mem_nil, or_false]; omega
    rw [decide_eq_false this]
    by_cases h1 : 97 ≤ c
    · rw [decide_eq_true h1, decide_eq_false (by omega)]; rfl
    · rw [decide_eq_false h1]; rfl
def FB1 (f : D → Bool) : List D → D → Prop := fun ds d => ∃ (t : D) (n : Nat), ds = [t] ∧ okD n t ∧ n ≤ 50 ∧ d = .bool (f t)
theorem fm_signs (z : Str) (g : Nat → D) (f : D → Option D) (h : ∀ c, f (.str ⟨#[c]⟩) = some (g c)) : (signsD z).filterMap f = z.cps.toList.map g := by
  unfold signsD
  rw [List.filterMap_map, ← List.filterMap_eq_map]
  exact fm_congr _ fun m _ => h m
theorem mem_signs {z : Str} {d : D} (h : d ∈ signsD z) : ∃ c, d = .str ⟨#[c]⟩ := by
  obtain ⟨c, _, e⟩ := List.mem_map.mp h
  exact ⟨c, e.symm⟩
theorem signs_len (z : Str) : (signsD z).length = z.length := by unfold signsD; rw [List.length_map, Array.length_toList]; rfl
theorem pair_form {d : D} (h : isPairD d = true) : ∃ k w, d = .tuple [.str k, .int w] := by
  unfold isPairD at h
  split at h
  · rename_i a b
    rw [Bool.and_eq_true] at h
    obtain ⟨h1, h2⟩ := h
    unfold isKeyD at h1
    unfold isWorthD at h2
    split at h1
    · split at h2
      · exact ⟨_, _, rfl⟩
      · cases h2
    · cases h1
  · cases h
theorem fm_some {α β : Type} (g : α → β) (l : List α) : l.filterMap (fun d => some (g d)) = l.map g := by
  rw [← List.filterMap_eq_map]; rfl
theorem cutD_len {α : Type} (xs : List α) (lo hi : Option Int) : (cutD xs lo hi).length ≤ xs.length := by
  unfold cutD
  rw [List.length_take, List.length_drop]; omega
theorem cutD_mem {α : Type} {xs : List α} {lo hi : Option Int} {x : α} (h : x ∈ cutD xs lo hi) : x ∈ xs := List.mem_of_mem_drop (List.mem_of_mem_take h)
theorem cutD_init {α : Type} (xs : List α) : cutD xs none (some (-1)) = xs.dropLast := by
  unfold cutD
  have e : HT.sIx xs.length xs.length (some (-1)) = xs.length - 1 := by
    show (if (-1 : Int) < 0 then ((-1 : Int) + (xs.length : Int)).toNat else min (-1 : Int).toNat xs.length) = _
    rw [if_pos (by decide)]; omega
  rw [e, HT.sIx_none, List.drop_zero, Nat.sub_zero, List.dropLast_eq_take]
theorem cutD_tail {α : Type} (xs : List α) : cutD xs (some 1) none = xs.drop 1 := by
  unfold cutD
  have e : HT.sIx xs.length 0 (some 1) = min 1 xs.length := HT.sIx_nat xs.length 0 1
  rw [e, HT.sIx_none]
  cases xs with
  | nil => rfl
  | cons x r =>
    rw [show min 1 (x :: r).length = 1 by rw [List.length_cons]; omega]
    exact List.take_of_length_le (by simp)
/-- the keys of a pair of pairs rise -/
def pairLt : D → Bool
  | .tuple [x, y] => ltP x y
  | _ => false
theorem rising_zip (l : List D) : (zipD (cutD l none (some (-1))) (cutD l (some 1) none)).all (id ∘ pairLt) = risingD l := by
  rw [cutD_init, cutD_tail]
  unfold zipD
  rw [List.all_map]
  match l with
  | [] => rfl
  | [_] => rfl
  | x :: y :: r =>
    have ih := rising_zip (y :: r)
    rw [cutD_init, cutD_tail] at ih
    unfold zipD at ih
    rw [List.all_map] at ih
    unfold risingD
    rw [← ih, List.dropLast_cons_cons]
    rfl
theorem change_short {l : List D} (h : (l.length : Int) < 2) : isChangeD (.tuple l) = false := by
  match l, h with
  | [], _ => rfl
  | [_], _ => unfold isChangeD; split <;> first | rfl | (rename_i q; cases q)
theorem change_word {x y : D} {l : List D} (h : isStrD x = false) : isChangeD (.tuple (x :: y :: l)) = false := by
  unfold isChangeD
  split
  · rename_i q; cases q; cases h
  · rename_i q; cases q; cases h
  · rfl
theorem change_key {x y : D} {l : List D} (h : isKeyD y = false) : isChangeD (.tuple (x :: y :: l)) = false := by
  unfold isChangeD
  split
  · rename_i q; cases q; rw [h]; rfl
  · rename_i q; cases q; rw [h]; rfl
  · rfl
theorem change_two (w : Str) (y : D) (h : isKeyD y = true) : isChangeD (.tuple [.str w, y]) = decide (w = "drop") := by
  show (isKeyD y && _) = _
  rw [h, Bool.true_and]
theorem change_three (w : Str) (y z : D) (h : isKeyD y = true) : isChangeD (.tuple [.str w, y, z]) = ((decide (w = "move") && isKeyD z) || ((decide (w = "put") || decide (w = "add") || decide (w = "keep")) && isWorthD z)) := by
  show (isKeyD y && _) = _
  rw [h, Bool.true_and]
theorem change_more (w y : D) (l : List D) (h1 : (l.length : Int) + 2 ≠ 2) (h2 : (l.length : Int) + 2 ≠ 3) : isChangeD (.tuple (w :: y :: l)) = false := by
  match l, h1, h2 with
  | [], h1, _ => exact absurd rfl h1
  | [_], _, h2 => exact absurd rfl h2
  | _ :: _ :: _, _, _ => unfold isChangeD; split <;> first | rfl | (rename_i q; cases q)
section
variable {X : Cx} {ρ : Env} {M : Mem} {pos : Pos} {a b : Expr}
/-- a text in a tuple of texts -/
theorem inV_strs (s : Str) : ∀ ts : List Str, inV (.str s) (ts.map V.str) = decide (s ∈ ts)
  | [] => rfl
  | t :: ts => by
    show (eqV (.str t) (.str s) || inV (.str s) (ts.map V.str)) = _
    rw [inV_strs s ts]
    have : eqV (.str t) (.str s) = decide (s = t) := by
      show decide (t = s) = decide (s = t)
      by_cases h : s = t
      · subst h; rfl
      · rw [decide_eq_false h, decide_eq_false fun q => h q.symm]
    rw [this]
    by_cases h : s = t
    · subst h; simp
    · simp [h]
theorem pd_inStrs {s : Str} {ts : List Str} (ha : PD X a ρ M (.str s)) (hb : PD X b ρ M (.tuple (ts.map .str))) (hm : behindInMarks .In b = false := by rfl) : PD X (.Compare a [.In] [b] pos) ρ M (.bool (decide (s ∈ ts))) :=
  pd_cmp op_in_seq (fun Hs H v u Q i p q k => by
    obtain ⟨l, vs, rfl, h1, h2⟩ := dp_tup q
    have e := dpAll_strs h2
    subst e
    refine ⟨l, _, rfl, .inr (h1.mono i).sq, by rw [dp_str p]; rfl, by simp [flatV], ?_⟩
    rw [dp_str p]
    show Q (.bl (inV (.str s) (ts.map V.str))) H
    rw [inV_strs]
    exact k _ Hs H (.refl i) (.bl _)) ha hb hm
theorem ptd_inStrs {s : Str} {ts : List Str} (ha : PD X a ρ M (.str s)) (hb : PD X b ρ M (.tuple (ts.map .str))) (hm : behindInMarks .In b = false := by rfl) : PTD X (.Compare a [.In] [b] pos) ρ M (decide (s ∈ ts)) :=
  ptd_cmp op_in_seq (fun Hs H v u Q i p q k => by
    obtain ⟨l, vs, rfl, h1, h2⟩ := dp_tup q
    have e := dpAll_strs h2
    subst e
    refine ⟨l, _, rfl, .inr (h1.mono i).sq, by rw [dp_str p]; rfl, by simp [flatV], ?_⟩
    rw [dp_str p]
    show Q (.bl (inV (.str s) (ts.map V.str))) H
    rw [inV_strs]
    exact k _ Hs H (.refl i) (.bl _)) ha hb hm
end
/-! ### the law's own key test -/
theorem one_lt (c d : Nat) : decide (([c] : List Nat) < [d]) = decide (c < d) := by
  by_cases h : c < d
  · rw [decide_eq_true h]; exact decide_eq_true (List.cons_lt_cons_iff.mpr (.inl h))
  · rw [decide_eq_false h]
    refine decide_eq_false fun q => ?_
    rcases List.cons_lt_cons_iff.mp q with q | ⟨_, q⟩
    · exact h q
    · exact absurd q (List.not_lt_nil _)
theorem low_chain (c : Nat) : (!decide (([c] : List Nat) < ("a" : Str).cps.toList) && !decide (("z" : Str).cps.toList < ([c] : List Nat))) = lowC c := by
  rw [show ("a" : Str).cps.toList = [97] by decide +kernel, show ("z" : Str).cps.toList = [122] by decide +kernel, one_lt, one_lt]
  unfold lowC
  by_cases h1 : c < 97
  · rw [decide_eq_true h1, decide_eq_false (show ¬ 97 ≤ c by omega)]; rfl
  · rw [decide_eq_false h1, decide_eq_true (show 97 ≤ c by omega)]
    by_cases h2 : 122 < c
    · rw [decide_eq_true h2, decide_eq_false (show ¬ c ≤ 122 by omega)]; rfl
    · rw [decide_eq_false h2, decide_eq_true (show c ≤ 122 by omega)]; rfl
/-- by a text's one sign -/
def signF (g : Nat → Option D) (d : D) : Option D := match d with | .str s => (match s.cps.toList with | [c] => g c | _ => none) | _ => none
theorem fm_signF (g : Nat → Option D) (z : Str) : (signsD z).filterMap (signF g) = z.cps.toList.filterMap g := by
  unfold signsD
  rw [List.filterMap_map]
  exact fm_congr _ fun m _ => rfl
theorem fm_low (z : Str) : PyData.list ((signsD z).filterMap (signF fun c => if lowC c then none else some (.str ⟨#[c]⟩))) = .list ((z.cps.toList.filter fun c => !lowC c).map fun c => .str ⟨#[c]⟩) := by
  rw [fm_signF]
  congr 1
  induction z.cps.toList with
  | nil => rfl
  | cons c l ih =>
    rw [List.filterMap_cons, List.filter_cons]
    cases hc : lowC c with
    | true => exact ih
    | false => exact congrArg (PyData.str ⟨#[c]⟩ :: ·) ih
theorem eqv_nil (l : List D) : PyData.eqv (.list l) (.list []) = l.isEmpty := by
  cases l with
  | nil => rfl
  | cons a l => rfl
theorem eqv_nilT (l : List D) : PyData.eqv (.tuple l) (.tuple []) = l.isEmpty := by
  cases l with
  | nil => rfl
  | cons a l => rfl
theorem empty_not {α : Type} (p : α → Bool) (l : List α) : (l.filter fun x => !p x).isEmpty = l.all p := by
  induction l with
  | nil => rfl
  | cons a l ih =>
    rw [List.filter_cons, List.all_cons]
    cases p a with
    | true => simpa using ih
    | false => rfl
theorem not_t {b : Bool} (h : (!b) = true) : b = false := by cases b; rfl; cases h
theorem not_f {b : Bool} (h : (!b) = false) : b = true := by cases b; cases h; rfl
theorem one_len (c n : Nat) : (⟨#[c]⟩ : Str).length ≤ n + 1 := by show 1 ≤ n + 1; omega
/-- pairs whose keys rise from last on -/
def goodTo (last : Str) : List D → Bool
  | [] => true
  | d :: r => isPairD d && (match d with | .tuple (.str k :: _) => ltS last k && goodTo k r | _ => false)
theorem lt_empty (k : Str) (h : isKeyS k = true) : ltS "" k = true := by
  unfold ltS
  refine decide_eq_true ?_
  have e : ("" : Str).cps.toList = [] := by decide +kernel
  rw [e]
  unfold isKeyS at h
  rw [Bool.and_eq_true, Bool.and_eq_true] at h
  have h1 := of_decide_eq_true h.1.1
  have hl : k.length = k.cps.toList.length := by rw [Array.length_toList]; rfl
  cases q : k.cps.toList with
  | nil => rw [hl, q] at h1; simp at h1
  | cons a l => exact List.nil_lt_cons a l
theorem good_from (l : List D) : ∀ (k : Str) (x : D), isPairD (.tuple [.str k, x]) = true → goodTo k l = (l.all isPairD && risingD (.tuple [.str k, x] :: l)) := by
  induction l with
  | nil => intro k x _; rfl
  | cons d r ih =>
    intro k x hk
    show (isPairD d && _) = ((isPairD d && r.all isPairD) && (ltP (.tuple [.str k, x]) d && risingD (d :: r)))
    cases q : isPairD d with
    | false => rfl
    | true =>
      obtain ⟨k2, w2, rfl⟩ := pair_form q
      show (true && (ltS k k2 && goodTo k2 r)) = ((true && r.all isPairD) && (ltS k k2 && risingD _))
      rw [ih k2 (.int w2) q]
      cases ltS k k2 <;> cases r.all isPairD <;> rfl
theorem good_book (l : List D) : goodTo "" l = isBookD (.tuple l) := by
  cases l with
  | nil => rfl
  | cons d r =>
    show (isPairD d && _) = ((isPairD d && r.all isPairD) && risingD (d :: r))
    cases q : isPairD d with
    | false => rfl
    | true =>
      obtain ⟨k2, w2, rfl⟩ := pair_form q
      have hk : isKeyS k2 = true := by
        have : (isKeyS k2 && isWorthD (.int w2)) = true := q
        rw [Bool.and_eq_true] at this
        exact this.1
      show (true && (ltS "" k2 && goodTo k2 r)) = ((true && r.all isPairD) && risingD _)
      rw [lt_empty k2 hk, good_from r k2 (.int w2) q]; rfl
/-! ### the law's sizes of changes -/
def sizesK : List (Str × Int) := [("put", 3), ("add", 3), ("keep", 3), ("drop", 2), ("move", 3)]
def sizeW (w : Str) : Int := if w = "put" then 3 else if w = "add" then 3 else if w = "keep" then 3 else if w = "drop" then 2 else if w = "move" then 3 else 0
theorem sizesK_merge : mergeA sizesK = sizesK := by decide +kernel
theorem sizeW_get (w : Str) : getA PyData.int (mergeA sizesK) w (.int 0) = .int (sizeW w) := by
  rw [sizesK_merge]
  unfold getA sizesK sizeW
  by_cases h1 : w = "put"
  · subst h1; rw [lookA_pos rfl, if_pos rfl]
  rw [lookA_neg fun q => h1 q.symm, if_neg h1]
  by_cases h2 : w = "add"
  · subst h2; rw [lookA_pos rfl, if_pos rfl]
  rw [lookA_neg fun q => h2 q.symm, if_neg h2]
  by_cases h3 : w = "keep"
  · subst h3; rw [lookA_pos rfl, if_pos rfl]
  rw [lookA_neg fun q => h3 q.symm, if_neg h3]
  by_cases h4 : w = "drop"
  · subst h4; rw [lookA_pos rfl, if_pos rfl]
  rw [lookA_neg fun q => h4 q.symm, if_neg h4]
  by_cases h5 : w = "move"
  · subst h5; rw [lookA_pos rfl, if_pos rfl]
  rw [lookA_neg fun q => h5 q.symm, if_neg h5]
  rfl
theorem sizeW_cases (w : Str) : sizeW w = 3 ∨ sizeW w = 2 ∨ sizeW w = 0 := by
  unfold sizeW
  split <;> (try split) <;> (try split) <;> (try split) <;> (try split) <;> simp
theorem sizeW_other (w : Str) {n : Nat} (h : ((n + 1 + 1 : Nat) : Int) = sizeW w) (hd : w ≠ "drop") (hm : w ≠ "move") : sizeW w = 3 ∧ (decide (w = "put") || decide (w = "add") || decide (w = "keep")) = true := by
  unfold sizeW at h ⊢
  by_cases h1 : w = "put"
  · rw [if_pos h1, decide_eq_true h1]; exact ⟨rfl, rfl⟩
  rw [if_neg h1] at h ⊢
  by_cases h2 : w = "add"
  · rw [if_pos h2, decide_eq_true h2]; exact ⟨rfl, by simp⟩
  rw [if_neg h2] at h ⊢
  by_cases h3 : w = "keep"
  · rw [if_pos h3, decide_eq_true h3]; exact ⟨rfl, by simp⟩
  rw [if_neg h3, if_neg hd, if_neg hm] at h
  exfalso; omega
theorem sizeW_no (w : Str) (r : List D) (h : ¬ ((.str w :: r : List D).length : Int) = sizeW w) : isChangeD (.tuple (.str w :: r)) = false := by
  match r with
  | [] => exact change_short (by show ((1 : Nat) : Int) < 2; decide)
  | [y] =>
    show (isKeyD y && decide (w = "drop")) = false
    have : ¬ w = "drop" := fun q => h (by subst q; show ((2 : Nat) : Int) = _; decide +kernel)
    rw [decide_eq_false this, Bool.and_false]
  | [y, z] =>
    show (isKeyD y && ((decide (w = "move") && isKeyD z) || ((decide (w = "put") || decide (w = "add") || decide (w = "keep")) && isWorthD z))) = false
    have n1 : ¬ w = "move" := fun q => h (by subst q; show ((3 : Nat) : Int) = _; decide +kernel)
    have n2 : ¬ w = "put" := fun q => h (by subst q; show ((3 : Nat) : Int) = _; decide +kernel)
    have n3 : ¬ w = "add" := fun q => h (by subst q; show ((3 : Nat) : Int) = _; decide +kernel)
    have n4 : ¬ w = "keep" := fun q => h (by subst q; show ((3 : Nat) : Int) = _; decide +kernel)
    rw [decide_eq_false n1, decide_eq_false n2, decide_eq_false n3, decide_eq_false n4]
    simp
  | y :: z :: z' :: r => exact change_more _ _ _ (by simp only [List.length_cons]; omega) (by simp only [List.length_cons]; omega)
theorem change_noword {x : D} (r : List D) (h : isStrD x = false) : isChangeD (.tuple (x :: r)) = false := by
  cases r with
  | nil => exact change_short (by show ((1 : Nat) : Int) < 2; decide)
  | cons y r => exact change_word h
theorem rd_eqStr {K : Fg} {s t : Str} : RD K rEq (.str s) (.str t) (.bool (decide (s = t))) := fun Hs H v u Q i p q k => by
  cases p; cases q
  refine ⟨rfl, k _ Hs H (.refl i) ?_⟩
  have : decide (V.str s = V.str t) = decide (s = t) := by
    by_cases h : s = t
    · subst h; simp
    · rw [decide_eq_false h, decide_eq_false fun q => h (V.str.inj q)]
  rw [this]; exact .bl _
end AB
namespace AB
open PySem L2
/-! ### expressions and defs that change things -/
/-- e comes to a slot; the memory may have changed -/
structure PX (X : Cx) (e : Expr) (ρ : Env) (M : Mem) (Φ : Sl → Mem → Prop) : Prop where
  run : ∀ (Hs H : Hp) (σ : L2.St) (Q : VK), RelM X.K Hs H M → EnvR X.K Hs σ ρ → (∀ v s Hs' H' M', RelM X.K Hs' H' M' → Fr Hs H M Hs' H' M' → SlV X.K Hs' v s → Φ s M' → Q v H') → tWe X e σ H Q
structure PXs (X : Cx) (es : List Expr) (ρ : Env) (M : Mem) (Φ : List Sl → Mem → Prop) : Prop where
  run : ∀ (Hs H : Hp) (σ : L2.St) (Q : List V → Hp → Prop), RelM X.K Hs H M → EnvR X.K Hs σ ρ → (∀ vs ss Hs' H' M', RelM X.K Hs' H' M' → Fr Hs H M Hs' H' M' → Paired (SlV X.K Hs') vs ss → Φ ss M' → Q vs H') → tWa X es σ H Q
structure PTX (X : Cx) (e : Expr) (ρ : Env) (M : Mem) (Φ : Bool → Mem → Prop) : Prop where
  run : ∀ (Hs H : Hp) (σ : L2.St) (Q : Bool → Hp → Prop), RelM X.K Hs H M → EnvR X.K Hs σ ρ → (∀ b Hs' H' M', RelM X.K Hs' H' M' → Fr Hs H M Hs' H' M' → Φ b M' → Q b H') → tWt X e σ H Q
structure PWX (X : Cx) (e : Expr) (ρ : Env) (M : Mem) (Φ : Bool → Mem → Prop) : Prop where
  run : ∀ (Hs H : Hp) (σ : L2.St) (Q : Bool → Hp → Prop), RelM X.K Hs H M → EnvR X.K Hs σ ρ → (∀ b Hs' H' M', RelM X.K Hs' H' M' → Fr Hs H M Hs' H' M' → Φ b M' → Q b H') → tWw X e σ H Q
section
variable {X : Cx} {M : Mem} {e a b : Expr} {es : List Expr} {ρ : Env} {d x y z : D} {ds : List D} {pos : Pos} {Φ : Sl → Mem → Prop} {mo : MO}
theorem PX.imp (h : PX X e ρ M Φ) {Ψ : Sl → Mem → Prop} (i : ∀ s M', Φ s M' → Ψ s M') : PX X e ρ M Ψ := ⟨fun Hs H σ Q r q k => h.run Hs H σ Q r q fun v s Hs' H' M' r' f' p' k' => k v s Hs' H' M' r' f' p' (i _ _ k')⟩
theorem PTX.imp {Φ : Bool → Mem → Prop} (h : PTX X e ρ M Φ) {Ψ : Bool → Mem → Prop} (i : ∀ s M', Φ s M' → Ψ s M') : PTX X e ρ M Ψ := ⟨fun Hs H σ Q r q k => h.run Hs H σ Q r q fun b Hs' H' M' r' f' k' => k b Hs' H' M' r' f' (i _ _ k')⟩
theorem PD.fx (h : PD X e ρ M d) (k : Φ (.d d) M) : PX X e ρ M Φ := ⟨fun Hs H σ Q r q kk => h.run Hs H σ Q r q fun v Hs' H' g p => kk v _ Hs' H' M (r.grow g) g.fr (slv_d p) k⟩
theorem PTD.fx {u : Bool} {Φ : Bool → Mem → Prop} (h : PTD X e ρ M u) (k : Φ u M) : PTX X e ρ M Φ := ⟨fun Hs H σ Q r q kk => h.run Hs H σ Q r q fun Hs' H' g => kk u Hs' H' M (r.grow g) g.fr k⟩
/-- a name that holds a thing -/
theorem pxv (i : Nat) {x : Str} {pos : Pos} {v : V} (h : ρ[i]? = some (.v v)) (k : Φ (.v v) M) (hN : X.N[i]? = some x := by rfl) (hv : Vis X.env.scope x := by first | exact Or.inl rfl | exact Or.inr (Or.inl rfl) | exact Or.inr (Or.inr rfl)) (hd : (x == ("__debug__" : Str)) = false := by decide)
    (hcd : (x == ("__classdict__" : Str)) = false := by decide) : PX X (.Name x pos) ρ M Φ :=
  ⟨fun Hs H σ Q r q kk => PE.w (pe_var hN hv hd hcd) ⟨_, q.getV h, kk v _ Hs H M r .refl slv_v k⟩⟩
theorem none_of {K : Fg} {Hs H : Hp} {p : Addr} (r : RelM K Hs H M) (hp : H p = none) : M p = none := by
  cases z : M p with
  | none => rfl
  | some mo => obtain ⟨_, o, h2, _⟩ := r.m p mo z; rw [hp] at h2; cases h2
/-- the memory with a new thing -/
theorem RelM.new {K : Fg} {Hs H Hs1 H1 : Hp} {p : Addr} {o : HO} (r : RelM K Hs H M) (g : Grow Hs H Hs1 H1) (hp : H p = Option.none) (hp1 : Hs1 p = Option.none) (e1 : H1 p = some o) (e2 : RepO K Hs1 o mo) : RelM K Hs1 H1 (mup M p mo) ∧ Fr Hs H M Hs1 H1 (mup M p mo) := by
  have r1 := r.grow g
  refine ⟨⟨r1.i, fun b mo' e => ?_⟩, ⟨g.s, fun b o h _ => g.h b o h, (g.fr (M := M)).n, fun b h1 h2 => ?_, (g.fr (M := M)).t⟩⟩
  · by_cases hb : b = p
    · subst hb
      rw [mup_same] at e
      cases e
      exact ⟨hp1, _, e1, e2⟩
    · rw [mup_ne hb] at e
      exact r1.m b mo' e
  · by_cases hb : b = p
    · subst hb; exact hp
    · rw [mup_ne hb] at h2; exact absurd h1 h2
/-- the memory with a thing changed -/
theorem RelM.put {K : Fg} {Hs H : Hp} {p : Addr} {o : HO} {mo0 : MO} (r : RelM K Hs H M) (hm : M p = some mo0) (e2 : RepO K Hs o mo) : RelM K Hs (upd H p o) (mup M p mo) ∧ Fr Hs H M Hs (upd H p o) (mup M p mo) := by
  obtain ⟨h1, o0, h2, _⟩ := r.m p _ hm
  refine ⟨⟨fun b u e => ?_, fun b mo' e => ?_⟩, ⟨Same.refl _, fun b u hb hn => ?_, fun _ k1 k2 => absurd k1 k2, fun b k1 k2 => ?_, fun b hb => ?_⟩⟩
  · rw [upd_ne (ne_of_none e h1)]; exact r.i b u e
  · by_cases hb : b = p
    · subst hb
      rw [mup_same] at e
      cases e
      exact ⟨h1, _, upd_same, e2⟩
    · rw [mup_ne hb] at e
      obtain ⟨k1, o, k2, k3⟩ := r.m b mo' e
      exact ⟨k1, o, by rw [upd_ne hb]; exact k2, k3⟩
  · have hb2 : b ≠ p := fun z => by rw [z, hm] at hn; cases hn
    rw [upd_ne hb2]; exact hb
  · by_cases hb : b = p
    · rw [hb, hm] at k1; cases k1
    · rw [mup_ne hb] at k2; exact absurd k1 k2
  · by_cases hb2 : b = p
    · subst hb2; rw [upd_same]; intro z; cases z
    · rw [upd_ne hb2]; exact hb
theorem PN.fx (h : PN X e ρ M mo) (k : ∀ l, M l = none → Φ (.v (.ref l)) (mup M l mo)) : PX X e ρ M Φ :=
  ⟨fun Hs H σ Q r q kk => h.run Hs H σ Q r q fun p o Hs1 H1 g hp hp1 e1 e2 => by
    obtain ⟨r1, f1⟩ := r.new g hp hp1 e1 e2
    exact kk _ (.v (.ref p)) Hs1 H1 _ r1 f1 rfl (k p (none_of r hp))⟩
theorem paired_mono {K : Fg} {Hs Hs' : Hp} {vs : List V} {ss : List Sl} (e : Same Hs Hs') (h : Paired (SlV K Hs) vs ss) : Paired (SlV K Hs') vs ss := Paired.mapP h fun _ _ z => z.mono e
theorem pxs_nil {Φ : List Sl → Mem → Prop} (k : Φ [] M) : PXs X [] ρ M Φ := ⟨fun Hs H σ Q r q kk => PA.w pa_nil (kk [] [] Hs H M r .refl .nil k)⟩
theorem pxs_cons {Φ : List Sl → Mem → Prop} (ha : PX X e ρ M fun s M1 => PXs X es ρ M1 fun ss M2 => Φ (s :: ss) M2) (hs : starEach (e :: es) X.env = (false, eval e X.env) :: starEach es X.env := by rfl) : PXs X (e :: es) ρ M Φ :=
  ⟨fun Hs H σ Q r q kk => PA.w (pa_cons pe_w pa_w hs) (ha.run Hs H σ _ r q fun v s Hs1 H1 M1 r1 f1 p1 hr => hr.run Hs1 H1 σ _ r1 (q.mono f1.s) fun vs ss Hs2 H2 M2 r2 f2 p2 k2 => kk _ _ Hs2 H2 M2 r2 (f1.trans f2) (.cons (p1.mono f2.s) p2) k2)⟩
theorem pairedD {K : Fg} {Hs : Hp} {vs : List V} {ds : List D} (h : DqAll K Hs vs ds) : Paired (SlV K Hs) vs (ds.map Sl.d) := by
  induction vs generalizing ds with
  | nil => cases h; exact .nil
  | cons v vs ih => cases h with | cons a b => exact .cons (slv_d a) (ih b)
theorem PDs.fx {Φ : List Sl → Mem → Prop} (h : PDs X es ρ M ds) (k : Φ (ds.map Sl.d) M) : PXs X es ρ M Φ := ⟨fun Hs H σ Q r q kk => h.run Hs H σ _ r q fun vs Hs1 H1 g p => kk vs _ Hs1 H1 M (r.grow g) g.fr (pairedD p) k⟩
end
/-! ### defs that change things -/
abbrev MSp := List Sl → Mem → (Sl → Mem → Prop) → Prop
def spM (K : Fg) (F : MSp) : Sp := fun vs H Q _ => ∃ (Hs : Hp) (M : Mem) (ss : List Sl) (Φ : Sl → Mem → Prop), RelM K Hs H M ∧ Paired (SlV K Hs) vs ss ∧ F ss M Φ ∧ ∀ v s Hs' H' M', RelM K Hs' H' M' → Fr Hs H M Hs' H' M' → SlV K Hs' v s → Φ s M' → Q v H'
structure DefM (P : Program) (w : World) (K : Fg) (mg : Str → Option Value) (base : Heap) (k : Nat) (x : Str) (ps : List Str) (F : MSp) : Prop where
  ex : ∃ f fd, FnOk P w K mg base CX0 k f fd ps (spM K F) ∧ mg x = some (.ref f) ∧ PySem.W.keepIn K (.ref f) = true ∧ Binds K fd ps []
def entryS (N : List Str) (ss : List Sl) : Env := ss ++ List.replicate (N.length - ss.length) Sl.u
theorem slots_env {K : Fg} {Hs : Hp} {N : List Str} {vs : List V} {ss : List Sl} (p : Paired (SlV K Hs) vs ss) : EnvR K Hs (L2.start N vs) (entryS N ss) := by
  have pl : vs.length = ss.length := Paired.length p
  refine ⟨by unfold L2.start entryS; simp [pl], fun i o s h1 h2 => ?_⟩
  unfold L2.start at h1
  unfold entryS at h2
  by_cases hi : i < ss.length
  · rw [List.getElem?_append_left hi] at h2
    rw [List.getElem?_append_left (by rw [List.length_map, pl]; exact hi), List.getElem?_map] at h1
    have : ∀ {vs : List V} {ss : List Sl} {i : Nat} {s : Sl}, Paired (SlV K Hs) vs ss → ss[i]? = some s → ∃ v, vs[i]? = some v ∧ SlV K Hs v s := by
      intro vs ss i s p
      induction p generalizing i with
      | nil => intro e; cases e
      | cons a _ ih =>
        intro e
        cases i with
        | zero => cases e; exact ⟨_, rfl, a⟩
        | succ i => exact ih (by simpa using e)
    obtain ⟨v, e1, e2⟩ := this p h2
    rw [e1] at h1
    cases h1
    exact e2
  · rw [List.getElem?_append_right (Nat.le_of_not_lt hi), List.getElem?_replicate] at h2
    split at h2
    · cases h2; exact trivial
    · cases h2
theorem fn_okM {P : Program} {w : World} {K : Fg} {mg : Str → Option Value} {base : Heap} {x qual : Str} {st : Stmt} {f : Addr} {fd : FuncData} {N ps : List Str} {k : Nat} {F : MSp} (Fu : Fun K x qual st f fd) (S : FnScope N ps (defScope st))
    (len : ∀ ss M Φ, F ss M Φ → ss.length = ps.length)
    (body : ∀ (cdv : Value) (A : Around) (outer : List PySem.Env) (s : Shared) (H : Hp) (E : XK) (ss : List Sl) (M : Mem) (Φ : Sl → Mem → Prop), Room k (A.deeper (PyProof.Rows.envOfC qual (defScope st) s.heap.objs.size f cdv)) → F ss M Φ →
      DSs (bCx P w K mg base N qual st f cdv A outer s H E) (defBody st) (entryS N ss) M { nx := fun _ M' => Φ (.d .none) M', rt := Φ }) : FnOk P w K mg base CX0 (k + 1) f fd ps (spM K F) := by
  refine Fu.ok S (fun vs H Q E h => ?_) (fun cdv A outer s H vs Q E hr h => ?_)
  · obtain ⟨Hs, M, ss, Φ, i, p, hF, _⟩ := h
    rw [Paired.length p]; exact len ss M Φ hF
  · obtain ⟨Hs, M, ss, Φ, i, p, hF, q⟩ := h
    refine ⟨_, pss_w, (body cdv A outer s H E ss M Φ hr hF).run Hs H _ _ i (slots_env p) ⟨fun Hs' H' M' σ' ρ' r f q' k => ?_, fun Hs' H' M' v z r f q' k => ?_, fun _ _ _ _ _ _ _ _ k => k.elim, fun _ _ _ _ _ _ _ _ k => k.elim⟩⟩
    · exact q _ _ Hs' H' M' r f (slv_d .non) k
    · exact q _ _ Hs' H' M' r f q' k
theorem def_okM {P : Program} {w : World} {K : Fg} {mg : Str → Option Value} {base : Heap} {x : Str} {st : Stmt} {N ps : List Str} {k : Nat} {F : MSp} (h : Dfn K mg x st ps) (S : FnScope N ps (defScope st)) (len : ∀ ss M Φ, F ss M Φ → ss.length = ps.length)
    (body : ∀ (f : Addr) (cdv : Value) (A : Around) (outer : List PySem.Env) (s : Shared) (H : Hp) (E : XK) (ss : List Sl) (M : Mem) (Φ : Sl → Mem → Prop), Room k (A.deeper (PyProof.Rows.envOfC x (defScope st) s.heap.objs.size f cdv)) → F ss M Φ →
      DSs (bCx P w K mg base N x st f cdv A outer s H E) (defBody st) (entryS N ss) M { nx := fun _ M' => Φ (.d .none) M', rt := Φ }) : DefM P w K mg base (k + 1) x ps F := by
  obtain ⟨f, fd, h1, h2, h3⟩ := h.ex
  exact ⟨f, fd, fn_okM h1 S len (body f), h2, h1.kp, h3⟩
section
variable {X : Cx} {M : Mem} {e a b c : Expr} {es : List Expr} {ρ : Env} {d x y z : D} {ds : List D} {pos : Pos} {Φ : Sl → Mem → Prop} {mo : MO} {Ψ : Post}
theorem px_call {k : Nat} {x : Str} {ps : List Str} {F : MSp} {p : Pos} (h : DefM X.prog X.w X.K X.mg X.base k x ps F) (hr : Room k X.A) (hg : Gl X x) (ha : PXs X (e :: es) ρ M fun ss M1 => F ss M1 Φ)
    (hdb : (x == ("__debug__" : Str)) = false := by decide) (he : starEach (e :: es) X.env = (false, eval e X.env) :: starEach es X.env := by rfl) (hpl : (backTo pos (starEach es X.env)).any (·.1) = false := by rfl) : PX X (.Call (.Name x p) (e :: es) [] pos) ρ M Φ := by
  obtain ⟨f, fd, F1, hm, hk, hb⟩ := h.ex
  exact ⟨fun Hs H σ Q r q k => PE.w (pe_call F1 hr hg hm hk hb .nil pass0 pa_w hdb he hpl) (ha.run Hs H σ _ r q fun vs ss Hs1 H1 M1 r1 f1 p1 hF => ⟨Hs1, M1, ss, Φ, r1, by rw [List.append_nil]; exact p1, hF, fun v s Hs2 H2 M2 r2 f2 p2 k2 => k v s Hs2 H2 M2 r2 (f1.trans f2) p2 k2⟩)⟩
/-! statements -/
theorem ds_exprX (he : PX X e ρ M fun _ M' => Ψ.nx ρ M') (hs : swapsWith e none pos.line X.env = pure false := by rfl) : DS X (.Expr e pos) ρ M Ψ :=
  ⟨fun Hs H σ E r q a => PS.w (ps_expr pe_w hs) (he.run Hs H σ _ r q fun v s Hs1 H1 M1 r1 f1 p1 k1 => a.nx Hs1 H1 M1 _ _ r1 f1 (q.mono f1.s) k1)⟩
theorem ds_setX (i : Nat) {x : Str} {pos' : Pos} (hN : X.N.Nodup) (he : PX X e ρ M fun s M' => Ψ.nx (ρ.set i s) M') (hi : X.N[i]? = some x := by rfl) (hx : Loc X.env.scope x := by first | exact Or.inl rfl | exact Or.inr rfl) (hs : swapsWith e (some (.Name x pos')) pos.line X.env = pure false := by rfl)
    (hf : X.fn x = true ∨ X.env.scope.names.lookup x = some .local := by first | exact .inl rfl | exact .inr rfl | assumption) : DS X (.Assign [.Name x pos'] e pos) ρ M Ψ :=
  ⟨fun Hs H σ E r q a => PS.w (ps_set hN hi hx pe_w hs hf) (he.run Hs H σ _ r q fun v s Hs1 H1 M1 r1 f1 p1 k1 => a.nx Hs1 H1 M1 _ _ r1 f1 ((q.mono f1.s).set i (s := s) p1) k1)⟩
theorem ds_retX (he : PX X e ρ M fun s M' => Ψ.rt s M') : DS X (.Return (some e) pos) ρ M Ψ :=
  ⟨fun Hs H σ E r q a => PS.w (ps_ret pe_w) (he.run Hs H σ _ r q fun v s Hs1 H1 M1 r1 f1 p1 k1 => a.rt Hs1 H1 M1 v s r1 f1 p1 k1)⟩
theorem ds_ifX {sa sb : List Stmt} (hc : PTX X c ρ M fun b M' => (b = true → DSs X sa ρ M' Ψ) ∧ (b = false → DSs X sb ρ M' Ψ)) : DS X (.If c sa sb pos) ρ M Ψ :=
  ⟨fun Hs H σ E r q a => PS.w (ps_if pt_w pss_w pss_w) (hc.run Hs H σ _ r q fun b Hs1 H1 M1 r1 f1 k1 => by
    cases b with
    | true => exact iteT ((k1.1 rfl).run Hs1 H1 σ E r1 (q.mono f1.s) (a.fr f1))
    | false => exact iteF ((k1.2 rfl).run Hs1 H1 σ E r1 (q.mono f1.s) (a.fr f1)))⟩
/-! tests and operators whose parts change things -/
theorem PWX.pt {Φ : Bool → Mem → Prop} (h : PWX X e ρ M Φ) : PTX X e ρ M Φ := ⟨fun Hs H σ Q i r k pins s I => h.run Hs H σ Q i r k _ pins s I⟩
theorem PWD.fx {u : Bool} {Φ : Bool → Mem → Prop} (h : PWD X e ρ M u) (k : Φ u M) : PWX X e ρ M Φ := ⟨fun Hs H σ Q r q kk => h.run Hs H σ Q r q fun Hs' H' g => kk u Hs' H' M (r.grow g) g.fr k⟩
theorem ptx_not {Φ : Bool → Mem → Prop} (h : PTX X a ρ M fun b M' => Φ (!b) M') : PTX X (.UnaryOp .Not a pos) ρ M Φ :=
  ⟨fun Hs H σ Q i r k => PT.w (pt_not pt_w) (h.run Hs H σ _ i r fun b Hs' H' M' r' f' k' => k _ Hs' H' M' r' f' k')⟩
theorem pwx_and1 {Φ : Bool → Mem → Prop} (ha : PTX X a ρ M Φ) : PWX X (.BoolOp .And [a] pos) ρ M Φ := ⟨fun Hs H σ Q i r k => PW.w (pw_and1 pt_w) (ha.run Hs H σ Q i r k)⟩
theorem pwx_or1 {Φ : Bool → Mem → Prop} (ha : PTX X a ρ M Φ) : PWX X (.BoolOp .Or [a] pos) ρ M Φ := ⟨fun Hs H σ Q i r k => PW.w (pw_or1 pt_w) (ha.run Hs H σ Q i r k)⟩
theorem pwx_or {rest : List Expr} {Φ : Bool → Mem → Prop} (ha : PTX X a ρ M fun u M1 => (u = true → Φ true M1) ∧ (u = false → PWX X (.BoolOp .Or (b :: rest) pos) ρ M1 Φ)) : PWX X (.BoolOp .Or (a :: b :: rest) pos) ρ M Φ :=
  ⟨fun Hs H σ Q i r k => PW.w (pw_or pt_w pw_w) (ha.run Hs H σ _ i r fun u Hs1 H1 M1 r1 f1 k1 => by
    cases u with
    | true => exact iteT (k true Hs1 H1 M1 r1 f1 (k1.1 rfl))
    | false => exact iteF ((k1.2 rfl).run Hs1 H1 σ _ r1 (r.mono f1.s) fun b Hs2 H2 M2 r2 f2 k2 => k b Hs2 H2 M2 r2 (f1.trans f2) k2))⟩
theorem pwx_and {rest : List Expr} {Φ : Bool → Mem → Prop} (ha : PTX X a ρ M fun u M1 => (u = false → Φ false M1) ∧ (u = true → PWX X (.BoolOp .And (b :: rest) pos) ρ M1 Φ)) : PWX X (.BoolOp .And (a :: b :: rest) pos) ρ M Φ :=
  ⟨fun Hs H σ Q i r k => PW.w (pw_and pt_w pw_w) (ha.run Hs H σ _ i r fun u Hs1 H1 M1 r1 f1 k1 => by
    cases u with
    | false => exact iteF (k false Hs1 H1 M1 r1 f1 (k1.1 rfl))
    | true => exact iteT ((k1.2 rfl).run Hs1 H1 σ _ r1 (r.mono f1.s) fun b Hs2 H2 M2 r2 f2 k2 => k b Hs2 H2 M2 r2 (f1.trans f2) k2))⟩
/-- both sides data at last -/
theorem twoX {r : R2} {Φ : Sl → Mem → Prop} (ha : PX X a ρ M fun s M1 => ∃ x, s = .d x ∧ PX X b ρ M1 fun s2 M2 => ∃ y z, s2 = .d y ∧ RD X.K r x y z ∧ Φ (.d z) M2) (Hs H : Hp) (σ : L2.St) (Q : VK) (i : RelM X.K Hs H M) (q : EnvR X.K Hs σ ρ)
    (k : ∀ v s Hs' H' M', RelM X.K Hs' H' M' → Fr Hs H M Hs' H' M' → SlV X.K Hs' v s → Φ s M' → Q v H') : tOp r (tWe X a) (tWe X b) σ H Q :=
  ha.run Hs H σ _ i q fun v s Hs1 H1 M1 r1 f1 p1 ⟨x, e1, hb⟩ => hb.run Hs1 H1 σ _ r1 (q.mono f1.s) fun u s2 Hs2 H2 M2 r2 f2 p2 ⟨y, z, e2, hr, k2⟩ => by
    subst e1 e2
    exact hr Hs2 H2 v u Q r2.i (dp_mono f2.s p1.dp) p2.dp fun z Hs3 H3 g3 p3 => k z _ Hs3 H3 M2 (r2.grow g3) ((f1.trans f2).trans g3.fr) (slv_d p3) k2
theorem px_op {op : Operator} {r : R2} (ho : OpR X (binaryOp op) r) (h : PX X a ρ M fun s M1 => ∃ x, s = .d x ∧ PX X b ρ M1 fun s2 M2 => ∃ y z, s2 = .d y ∧ RD X.K r x y z ∧ Φ (.d z) M2) : PX X (.BinOp a op b pos) ρ M Φ :=
  ⟨fun Hs H σ Q i q k => PE.w (pe_op ho pe_w pe_w) (twoX h Hs H σ Q i q k)⟩
theorem px_cmp {op : CmpOp} {r : R2} (ho : OpR X (compareOp op) r) (h : PX X a ρ M fun s M1 => ∃ x, s = .d x ∧ PX X b ρ M1 fun s2 M2 => ∃ y z, s2 = .d y ∧ RD X.K r x y z ∧ Φ (.d z) M2) (hm : behindInMarks op b = false := by first | exact nobehind _ (by decide) (by decide) | rfl) : PX X (.Compare a [op] [b] pos) ρ M Φ :=
  ⟨fun Hs H σ Q i q k => PE.w (pe_cmpR ho pe_w pe_w hm) (twoX h Hs H σ Q i q k)⟩
theorem ptx_cmp {op : CmpOp} {r : R2} {Φ : Bool → Mem → Prop} (ho : OpR X (compareOp op) r) (h : PX X a ρ M fun s M1 => ∃ x, s = .d x ∧ PX X b ρ M1 fun s2 M2 => ∃ y c, s2 = .d y ∧ RD X.K r x y (.bool c) ∧ Φ c M2) (hm : behindInMarks op b = false := by first | exact nobehind _ (by decide) (by decide) | rfl) : PTX X (.Compare a [op] [b] pos) ρ M Φ :=
  ⟨fun Hs H σ Q i q k => PT.w (pt_cmpR ho pe_w pe_w hm) (twoX (Φ := fun s M' => ∃ c, s = .d (.bool c) ∧ Φ c M') (h.imp fun s M1 ⟨x, e1, h2⟩ => ⟨x, e1, h2.imp fun s2 M2 ⟨y, c, e2, hr, k2⟩ => ⟨y, _, e2, hr, c, rfl, k2⟩⟩) Hs H σ _ i q fun v s Hs' H' M' r' f' p' ⟨c, e, k'⟩ => by
    subst e
    exact ⟨c, dp_bl p'.dp, k c Hs' H' M' r' f' k'⟩)⟩
end
end AB
/-! sets of texts: set(xs) of a list of texts, sorted of it -/
namespace AB
open PySem PySem.Spec PyProof.Rows L2
def keyS (e : Int × Value) : Str := match e.2 with | .str k _ => k | _ => ""
def GoodS (P : Program) (w : World) (e : Int × Value) : Prop := ∃ k tk, e.2 = Value.str k tk ∧ e.1 = (PySem.strKind P w).hash k
def SetS (P : Program) (w : World) (h : Heap) (a : Addr) (S : Str → Bool) (n : Nat) : Prop :=
  ∃ o es ep t, h.get? a = some o ∧ o.ExactSet ∧ o.data = .set es ep t ∧ (∀ e ∈ es.toList, GoodS P w e) ∧ (es.toList.map keyS).Nodup ∧ (∀ k, S k = true ↔ k ∈ es.toList.map keyS) ∧
    es.size < scanBound ∧ t.fits es.size = true ∧ es.size = n ∧ Ris t.place.toList ∧ (w.params.followText "set-order" = true ∨ t.led = true)
section
variable {P : Program} {w : World} {h h' : Heap} {a : Addr} {S : Str → Bool} {n : Nat}
theorem SetS.at (R : SetS P w h a S n) (k : ∀ o, h.get? a = some o → h'.get? a = some o) : SetS P w h' a S n := by
  obtain ⟨o, es, ep, t, ho, r⟩ := R
  exact ⟨o, es, ep, t, k o ho, r⟩
theorem SetS.congr {S' : Str → Bool} (R : SetS P w h a S n) (e : ∀ k, S k = S' k) : SetS P w h a S' n := by
  have q : S = S' := funext e
  rw [← q]; exact R
theorem goodS_elems {l : List (Int × Value)} (g : ∀ e ∈ l, GoodS P w e) : ElemsOf (PySem.strKind P w) l := fun e he => by
  obtain ⟨k, tk, h1, h2⟩ := g e he
  exact ⟨⟨k, by rw [h1]; exact strKind_is P w k tk, h2⟩, by rw [h1] <;> rfl⟩
theorem goodS_is {e : Int × Value} (g : GoodS P w e) (k : Str) : (PySem.strKind P w).is k e.2 = true ↔ keyS e = k := by
  obtain ⟨k0, tk, h1, _⟩ := g
  unfold keyS
  rw [h1]
  constructor
  · intro z; exact (PySem.strKind P w).inj _ _ _ (strKind_is P w k0 tk) z
  · intro z; rw [← z]; exact strKind_is P w k0 tk
theorem goodS_mem {l : List (Int × Value)} (g : ∀ e ∈ l, GoodS P w e) (k : Str) : k ∈ l.map keyS ↔ ∃ e ∈ l, (PySem.strKind P w).is k e.2 = true := by
  rw [List.mem_map]
  constructor
  · rintro ⟨e, he, q⟩
    exact ⟨e, he, (goodS_is (g e he) k).2 q⟩
  · rintro ⟨e, he, q⟩
    exact ⟨e, he, (goodS_is (g e he) k).1 q⟩
theorem setS_fresh (w : World) : SetS P w (h.push { cls := .type "set", dict := none, data := .set #[] 0 (.fresh 0 0 (!w.params.followText "set-order")) }) h.objs.size (fun _ => false) 0 :=
  ⟨_, #[], 0, _, Heap.get?_push_size _ rfl, ⟨rfl, rfl, rfl⟩, rfl, (fun e he => by simp at he), (by simp), (fun k => by simp), (by decide), (by rfl), rfl, List.Pairwise.nil, by
    show _ ∨ (!w.params.followText "set-order") = true
    cases w.params.followText "set-order"
    · exact .inr rfl
    · exact .inl rfl⟩
end
section
variable {P : Program} {w : World} {A : Around} {E : Value → Shared → Prop} {s : Shared} {a : Addr} {S : Str → Bool} {n : Nat}
theorem setS_add_tail {g : Bool → Sem Unit} (hg : ∀ (b : Bool) (s₁ : Shared) (Q' : Unit → Shared → Prop), Q' () s₁ → wpAny (model P w) A (g b) Q' E s₁)
    {o : Obj} {es : Array (Int × Value)} {ep : Nat} {t : SetTable} (ho : s.heap.get? a = some o) (hex : o.ExactSet) (hd : o.data = .set es ep t)
    {es1 : Array (Int × Value)} {t2 : SetTable} {S' : Str → Bool} (g1 : ∀ e ∈ es1.toList, GoodS P w e) (nd1 : (es1.toList.map keyS).Nodup) (m1 : ∀ k, S' k = true ↔ k ∈ es1.toList.map keyS)
    (hb1 : es1.size < scanBound) (hf2 : t2.fits es1.size = true) (hr : Ris t2.place.toList) (hl : w.params.followText "set-order" = true ∨ t2.led = true) {wasDummy : Bool} {R : Option Bool → Shared → Prop}
    (hR : ∀ h', Heap.SameBut a s.heap h' → SetS P w h' a S' es1.size → R (some true) { s with heap := h' }) :
    wpAny (model P w) A (do
        storeSet a es1 t2
        if (!wasDummy && t2.tooFull) = true then do
            g (relayAll t2 es1 (SetTable.grown es1.size)).2.2
            storeSet a (relayAll t2 es1 (SetTable.grown es1.size)).1 (relayAll t2 es1 (SetTable.grown es1.size)).2.1
            pure (some true)
          else pure (some true)) R E s := by
  refine wpAny_bind (wpAny_storeSet_of ho hd ?_ (fits_of_scanBound hb1))
  have ho1 := store_at (es' := es1) (t' := t2) ho hd
  have sb1 := Heap.SameBut.update s.heap a (Obj.putSet es1 t2)
  split
  · have pm := relayAll_perm t2 es1 (SetTable.grown es1.size)
    have hf3 := relayAll_fits t2 es1 (SetTable.grown es1.size)
    have hr3 := relayAll_ris t2 es1 (SetTable.grown es1.size)
    have hl3 := relayAll_led t2 es1 (SetTable.grown es1.size)
    generalize relayAll t2 es1 (SetTable.grown es1.size) = Z at pm hf3 hr3 hl3 ⊢
    obtain ⟨es2, t3, gave⟩ := Z
    dsimp only at pm hf3 hr3 hl3 ⊢
    have hsz : es2.size = es1.size := by rw [← Array.length_toList, pm.length_eq, Array.length_toList]
    have hb2 : es2.size < scanBound := by rw [hsz]; exact hb1
    refine wpAny_bind (hg _ _ _ ?_)
    refine wpAny_bind (wpAny_storeSet_of ho1 rfl ?_ (fits_of_scanBound hb2))
    have ho2 := store_at (es' := es2) (t' := t3) ho1 rfl
    refine wpAny_pure (hR _ (sb1.trans (Heap.SameBut.update _ a _)) ?_)
    exact ⟨_, es2, _, t3, ho2, hex, rfl, fun e he => g1 e (pm.mem_iff.mp he), (pm.map keyS).nodup_iff.mpr nd1, fun k => (m1 k).trans (pm.map keyS).mem_iff.symm, hb2, hf3, hsz, hr3,
      hl.imp id fun z => by rw [hl3]; exact z⟩
  · exact wpAny_pure (hR _ sb1 ⟨_, es1, _, t2, ho1, hex, rfl, g1, nd1, m1, hb1, hf2, rfl, hr, hl⟩)
theorem setS_add_hashed {k : Str} {tk : Tok} {Q : Bool → Shared → Prop} (R : SetS P w s.heap a S n) (room : n + 1 < scanBound)
    (hQ : ∀ h' m, Heap.SameBut a s.heap h' → m ≤ n + 1 → SetS P w h' a (fun j => S j || decide (j = k)) m → Q (!S k) { s with heap := h' }) :
    wpAny (model P w) A (setAddHashed a (.str k tk) ((PySem.strKind P w).hash k)) Q E s := by
  obtain ⟨o, es, ep, t, ho, hex, hd, g, nd, hm, hb, hf, hn, hr, hl⟩ := R
  have hkey : (PySem.strKind P w).is k (.str k tk) = true := strKind_is P w k tk
  have hsc : (Value.str k tk).scannable = true := rfl
  have hel : ElemsOf (PySem.strKind P w) es.toList := goodS_elems g
  unfold setAddHashed setAddHashedIn
  refine wpAny_holding (wpAny_bind (wpAny_setState_of ho hd hf ?_))
  dsimp only
  rw [byScan_of hsc hb hel]
  simp only [↓reduceIte]
  unfold setAddByScan
  refine wpAny_bind ?_
  refine wpAny_bind (wpAny_rule ?_)
  refine wpAny_bind (wpAny_setScan_of hkey ho hd hf hel ?_)
  cases hfi : List.findIdx? (fun e => (PySem.strKind P w).is k e.2) es.toList with
  | some j =>
    dsimp only
    obtain ⟨hj, pj, _⟩ := List.findIdx?_eq_some_iff_getElem.mp hfi
    have hSk : S k = true := (hm k).2 ((goodS_mem (P := P) (w := w) g k).2 ⟨es.toList[j], List.getElem_mem hj, pj⟩)
    refine wpAny_pure (wpAny_pure ?_)
    have q := hQ s.heap n (Heap.SameBut.refl a s.heap) (Nat.le_succ _) ⟨o, es, ep, t, ho, hex, hd, g, nd, fun i => by
      rw [Bool.or_eq_true, decide_eq_true_eq, ← hm i]
      exact ⟨fun z => z.elim id (fun e => e ▸ hSk), .inl⟩, hb, hf, hn, hr, hl⟩
    rw [hSk] at q
    exact q
  | none =>
    dsimp only
    have hnk : k ∉ es.toList.map keyS := fun z => by
      obtain ⟨e, he, q⟩ := (goodS_mem (P := P) (w := w) g k).1 z
      have c := List.findIdx?_eq_none_iff.mp hfi e he
      rw [q] at c
      cases c
    have hSk : S k = false := by
      cases q : S k with
      | false => rfl
      | true => exact absurd ((hm k).1 q) hnk
    have hgw : ∀ (b : Bool) {s₁ : Shared} {Q' : Unit → Shared → Prop}, Q' () s₁ → wpAny (model P w) A (match b with | true => rule "set.scan.the-table-gave-way" | false => pure ()) Q' E s₁ :=
      fun b s₁ Q' q => by cases b <;> first | exact wpAny_pure q | exact wpAny_rule q
    have pm := layNew_perm t es ((PySem.strKind P w).hash k) (.str k tk)
    have hf1 := layNew_fits t es ((PySem.strKind P w).hash k) (.str k tk)
    have hr1 := layNew_ris t es ((PySem.strKind P w).hash k) (.str k tk) hr
    have hl1 := layNew_led t es ((PySem.strKind P w).hash k) (.str k tk)
    generalize layNew t es ((PySem.strKind P w).hash k) (.str k tk) = Z at pm hf1 hr1 hl1 ⊢
    obtain ⟨es1, t1, wasDummy, gave⟩ := Z
    dsimp only at pm hf1 hr1 hl1 ⊢
    rw [Array.toList_push] at pm
    have pc : es1.toList.Perm (((PySem.strKind P w).hash k, Value.str k tk) :: es.toList) := pm.trans (List.perm_append_singleton _ _)
    have pk : (es1.toList.map keyS).Perm (k :: es.toList.map keyS) := pc.map keyS
    have g1 : ∀ e ∈ es1.toList, GoodS P w e := fun e he => by
      rcases List.mem_cons.mp (pc.mem_iff.mp he) with z | z
      · rw [z]; exact ⟨k, tk, rfl, rfl⟩
      · exact g e z
    have nd1 : (es1.toList.map keyS).Nodup := pk.nodup_iff.mpr (List.nodup_cons.mpr ⟨hnk, nd⟩)
    have m1 : ∀ i, (S i || decide (i = k)) = true ↔ i ∈ es1.toList.map keyS := fun i => by
      rw [Bool.or_eq_true, decide_eq_true_eq, hm i, pk.mem_iff, List.mem_cons]
      exact Or.comm
    have hsz : es1.size = n + 1 := by rw [← Array.length_toList, pc.length_eq, List.length_cons, Array.length_toList, hn]
    have hb1 : es1.size < scanBound := by rw [hsz]; exact room
    have hled : w.params.followText "set-order" = true ∨ t1.led = true := hl.imp id fun z => by rw [hl1]; exact z
    have fin : ∀ h', Heap.SameBut a s.heap h' → SetS P w h' a (fun j => S j || decide (j = k)) es1.size → Q true { s with heap := h' } := fun h' sb r => by
      have q := hQ h' (n + 1) sb (Nat.le_refl _)
      rw [hSk] at q
      rw [hsz] at r
      exact q r
    refine wpAny_bind (hgw _ ?_)
    split
    · refine wpAny_bind ?_
      rw [hashByValue_scannable 8 hsc]
      refine wpAny_pure ?_
      refine setS_add_tail ?_ ho hex hd g1 nd1 m1 hb1 ?_ ?_ ?_ ?_
      · intro b s₁ Q' q; cases b <;> first | exact wpAny_pure q | exact wpAny_rule q
      · first | (split <;> first | exact hf1 | exact SetTable.fits_plain_off hf1) | exact hf1
      · first | (split <;> exact hr1) | exact hr1
      · first | (split <;> exact hled) | exact hled
      · intro h' sb r; dsimp only; exact wpAny_pure (fin h' sb r)
    · refine wpAny_bind (wpAny_pure ?_)
      simp only [↓reduceIte]
      refine setS_add_tail ?_ ho hex hd g1 nd1 m1 hb1 hf1 hr1 hled ?_
      · intro b s₁ Q' q; cases b <;> first | exact wpAny_pure q | exact wpAny_rule q
      · intro h' sb r; dsimp only; exact wpAny_pure (fin h' sb r)
end
section
variable {prog : Program} {w : World} {A : Around} {R : Result → Shared → Prop} {I : Addr} {fp wr : List Addr} {G : Array GenState → Array GenState → Prop} {n : Nat} {P : Nat → Value → Prop} {St : Nat → Shared → Prop}
/-- the loop of set(xs) -/
theorem set_loopS (W : WalksS prog w A.in1 I fp wr G n P St) (S : Addr) (hSf : S ∉ fp) (xs : List Str) (hxn : xs.length = n) (hval : ∀ i v, P i v → ∃ t, v = .str (xs.getD i "") t) (hb : n + 1 < scanBound) :
    ∀ (k i : Nat) (s : Shared), n - i = k → i ≤ n → St i s → (∃ m, m ≤ i ∧ SetS prog w s.heap S (fun k' => decide (k' ∈ xs.take i)) m) →
      (∀ s', Moved (S :: wr) G s s' → (∃ m, m ≤ n ∧ SetS prog w s'.heap S (fun k' => decide (k' ∈ xs)) m) → R (.ok (.ret .none)) s') →
      codeAny (model prog w) A (.builtin "set.update.loop" ⟨[.ref S, .ref I], []⟩) R s := by
  have hSw : S ∉ wr := fun h => hSf (W.sub _ h)
  have hsub : ∀ b ∈ wr, b ∈ S :: wr := fun b hb => List.mem_cons_of_mem _ hb
  intro k
  induction k with
  | zero =>
    intro i s hk hi hst hS hR
    have hin : i = n := by omega
    subst hin
    refine codeAny_builtin PyProof.Rows.F.entry_set_update_loop ?_
    rw [Around.under_plainId PyProof.Rows.F.plain_set_update_loop _]
    show wpAny _ A.in1 (pyNext (.ref I) >>= _) _ _ s
    refine wpAny_bind (W.done s _ _ hst fun s' hm => ?_)
    show wpAny _ A.in1 (ret Value.none) _ _ s'
    obtain ⟨m, h1, h2⟩ := hS
    refine wpAny_pure (hR s' (hm.mono hsub) ⟨m, h1, (h2.at fun o e => hm.heap S o hSw e).congr fun k' => ?_⟩)
    rw [List.take_of_length_le (by omega)]
  | succ k ih =>
    intro i s hk hi hst hS hR
    have hlt : i < n := by omega
    refine codeAny_builtin PyProof.Rows.F.entry_set_update_loop ?_
    rw [Around.under_plainId PyProof.Rows.F.plain_set_update_loop _]
    show wpAny _ A.in1 (pyNext (.ref I) >>= _) _ _ s
    refine wpAny_bind (W.item i s _ _ hlt hst fun v s' hP hst' hm => ?_)
    obtain ⟨t, rfl⟩ := hval i v hP
    obtain ⟨m, h1, h2⟩ := hS
    have h3 := h2.at (h' := s'.heap) fun o e => hm.heap S o hSw e
    show wpAny _ A.in1 (holding [Value.str (xs.getD i "") t] (setAdd S (.str (xs.getD i "") t)) >>= _) _ _ s'
    refine wpAny_bind (wpAny_holding ?_)
    unfold setAdd
    refine wpAny_holding ?_
    refine wpAny_bind ((PySem.strKind prog w).pyHash (k := xs.getD i "") (strKind_is _ _ _ _) ?_)
    refine setS_add_hashed (s := { s' with toks := s'.toks + 1 }) h3 (by omega) fun h' m' hsb hm' hS2 => ?_
    have hSi : SetS prog w h' S (fun k' => decide (k' ∈ xs.take (i + 1))) m' := hS2.congr fun k' => by
      have hi' : i < xs.length := by omega
      have e1 : xs.getD i "" = xs[i] := by simp [List.getD, hi']
      have e2 : xs.take (i + 1) = xs.take i ++ [xs[i]] := by rw [List.take_succ, List.getElem?_eq_getElem hi']; rfl
      rw [e1, e2]
      rw [Bool.eq_iff_iff]
      simp only [Bool.or_eq_true, decide_eq_true_eq, List.mem_append, List.mem_singleton]
    refine wpAny_pure ⟨plainId_quiet PyProof.Rows.F.plain_set_update_loop _, ih (i + 1) _ (by omega) hlt (W.frame _ s' _ _ hst' (Nat.le_succ _) fun b hb o e => ?_) ⟨m', by omega, hSi⟩ fun s'' hm'' hS'' => ?_⟩
    · rw [hsb.2 b (fun h : b = S => hSf (by rw [← h]; exact hb))]; exact e
    · refine hR s'' (Moved.trans W.gtrans ((hm.mono hsub).then_heap (Nat.le_succ _) fun b o hb e => ?_) hm'') hS''
      rw [hsb.2 b (fun h : b = S => hb (by rw [h]; exact List.mem_cons_self))]; exact e
end
end AB
namespace AB
open PySem PySem.Spec PyProof.Rows L2
section
variable {prog : Program} {w : World} {A : Around} {E : Value → Shared → Prop} {s : Shared}
theorem strs_getD : ∀ {vs : List Value} {xs : List Str}, StrsAre vs xs → ∀ (i : Nat) (v : Value), vs[i]? = some v → ∃ t, v = .str (xs.getD i "") t
  | _, _, .nil, i, v, h => by simp at h
  | _, _, .cons n t hr, 0, v, h => by simp at h; exact ⟨t, by rw [← h]; rfl⟩
  | _, _, .cons n t hr, i + 1, v, h => by
    simp only [List.getElem?_cons_succ] at h
    obtain ⟨t', e⟩ := strs_getD hr i v h
    exact ⟨t', by rw [e]; rfl⟩
theorem strs_len : ∀ {vs : List Value} {xs : List Str}, StrsAre vs xs → vs.length = xs.length
  | _, _, .nil => rfl
  | _, _, .cons n t hr => by rw [List.length_cons, List.length_cons, strs_len hr]
/-- set(xs), xs a list of texts -/
theorem call_set_strs {l : Addr} {items : Array Value} {xs : List Str} {Q : Value → Shared → Prop} (hh : A.handled = none) (hl : s.heap.IsList l items) (hi : StrsAre items.toList xs) (hb : xs.length + 1 < scanBound)
    (h : ∀ (h' : Heap) (tk m : Nat), m ≤ xs.length → SetS prog w h' s.heap.objs.size (fun k => decide (k ∈ xs)) m → (∀ b o, s.heap.get? b = some o → h'.get? b = some o) → Q (.ref s.heap.objs.size) { s with heap := h', toks := tk }) :
    wpAny (model prog w) A (call (.type "set") [.ref l]) Q E s := by
  have hisz : xs.length = items.size := by rw [← strs_len hi, Array.length_toList]
  obtain ⟨c, tl, hmro⟩ := PySem.F.called_set.mro
  have hmade := PySem.F.called_set.made
  have hsub := PySem.F.called_set.sub
  refine wpAny_call (codeAny_of_tree ?_)
  show wpAny _ _ (callAny (.type "set") _) _ _ _
  refine wpAny_pure ⟨Code.quiet_builtin _ (by decide +kernel), codeAny_builtin PySem.F.entry_type_call ?_⟩
  rw [Around.under_plain (weight_type_call_type "set" [.ref l] []) rfl]
  have h1 := PySem.F.called_set.notType
  have h2 := PySem.F.called_set.canCreate
  have hct := PySem.F.typeCall_set_1 (.ref l)
  repeat (any_goals (first | assumption | wp_step))
  refine codeAny_mono (code_set_led1 (.ref l) (E := E) (Q₁ := fun obj s₁ => obj = .ref s.heap.objs.size ∧ s₁ = { s with heap := s.heap.push { cls := .type "set", dict := none, data := .set #[] 0 (.fresh 0 0 (!w.params.followText "set-order")) } }) ⟨rfl, rfl⟩) fun r s₁ hr => ?_
  cases r with
  | error e => exact hr
  | ok fl =>
    cases fl with
    | ret obj =>
      obtain ⟨rfl, rfl⟩ := hr
      have hS : (s.heap.push { cls := .type "set", dict := none, data := .set #[] 0 (.fresh 0 0 (!w.params.followText "set-order")) }).get? s.heap.objs.size = some { cls := .type "set", dict := none, data := .set #[] 0 (.fresh 0 0 (!w.params.followText "set-order")) } := Heap.get?_push_size _ rfl
      have hT : Shared.TypeIs { s with heap := s.heap.push { cls := .type "set", dict := none, data := .set #[] 0 (.fresh 0 0 (!w.params.followText "set-order")) } } (.ref s.heap.objs.size) "set" := ⟨_, hS, rfl⟩
      have hli := PySem.F.called_set.init.lookup
      have hbi := PySem.F.called_set.init.bind (.ref s.heap.objs.size)
      repeat (any_goals (first | assumption | wp_step))
      refine codeAny_mono (codeAny_call_builtin (R := wants (fun r s₂ => r = .none ∧ ∃ h' tk m, s₂ = { s with heap := h', toks := tk } ∧ m ≤ xs.length ∧ SetS prog w h' s.heap.objs.size (fun k => decide (k ∈ xs)) m ∧
          (∀ b o, s.heap.get? b = some o → h'.get? b = some o)) E) PySem.F.called_set.init.plain PySem.F.entry_set_init (check_set_init_1 hT ?_)) fun r₂ s₂ hr₂ => ?_
      · obtain ⟨ol, hol, hcl, nl, hdl⟩ := hl
        obtain ⟨ocls, odict, odata, oslots⟩ := ol
        simp only at hcl hdl
        subst hcl; subst hdl
        have hol' : (s.heap.push { cls := .type "set", dict := none, data := .set #[] 0 (.fresh 0 0 (!w.params.followText "set-order")) }).get? l = some { cls := .type "list", dict := odict, data := .seq items nl, slots := oslots } := Heap.get?_push_of_some _ hol
        have hsls := PySem.F.sub_list_set
        have hslf := PySem.F.sub_list_frozenset
        have hne : (Value.type "list" == Value.type "dict") = false := by decide
        have hl1 : (s.heap.push { cls := .type "set", dict := none, data := .set #[] 0 (.fresh 0 0 (!w.params.followText "set-order")) }).IsList l items := ⟨_, hol', rfl, nl, rfl⟩
        unfold Builtin.«set.__init__» noKeywords Builtin.Frozenset.updateFrom
        generalize hPI : pyIter = PI
        wp_walk
        subst hPI
        refine wpAny_pyIter_list hl1 ?_
        refine wpAny_bind (wpAny_runValue ?_)
        have hlS : l < s.heap.objs.size := Heap.lt_size hol
        have hh3 : A.in1.in1.in1.handled = none := by simp [hh]
        have hneI : l ≠ (s.heap.push { cls := .type "set", dict := none, data := .set #[] 0 (.fresh 0 0 (!w.params.followText "set-order")) }).objs.size := by
          rw [Heap.size_push]; exact Nat.ne_of_lt (Nat.lt_succ_of_lt hlS)
        have hSf : s.heap.objs.size ∉ [(s.heap.push { cls := .type "set", dict := none, data := .set #[] 0 (.fresh 0 0 (!w.params.followText "set-order")) }).objs.size, l] := by
          rw [Heap.size_push]; simp only [List.mem_cons, List.mem_singleton, List.not_mem_nil, or_false, not_or]
          exact ⟨Nat.ne_of_lt (Nat.lt_succ_self _), Nat.ne_of_gt hlS⟩
        have hval : ∀ (i : Nat) (v : Value), items[i]? = some v → ∃ t, v = .str (xs.getD i "") t := fun i v hv =>
          strs_getD hi i v (by rw [Array.getElem?_toList]; exact hv)
        refine set_loopS ((Walks.list hh3 _ l hneI items).toS) s.heap.objs.size
          hSf xs hisz hval (by omega) (items.size - 0) 0 _ (by omega) (Nat.zero_le _)
          ⟨⟨_, Heap.get?_push_size _ rfl, rfl, rfl⟩, (hl1.push _)⟩ ?hS0 ?hR
        case hS0 =>
          refine ⟨0, Nat.le_refl _, ((setS_fresh (P := prog) (h := s.heap) w).at fun o e => Heap.get?_push_of_some _ e).congr fun k => ?_⟩
          simp
        case hR =>
          intro s' hm hS'
          obtain ⟨m, hm', hS'⟩ := hS'
          obtain ⟨h', g2, d', tk', os'⟩ := s'
          have eg : g2 = s.gens := hm.gens
          have ed : d' = s.drawn := hm.drawn
          have eo : os' = s.os := hm.os
          subst eg; subst ed; subst eo
          show wpAny _ _ _ _ _ _
          refine wpAny_pure ?_
          show wpAny _ _ (ret Value.none) _ _ _
          refine wpAny_pure ⟨rfl, h', tk', m, rfl, by omega, hS', fun b o e => ?_⟩
          have hb := Heap.lt_size e
          have hb1 : b ≠ s.heap.objs.size := Nat.ne_of_lt hb
          have hb2 : b ≠ (s.heap.push { cls := .type "set", dict := none, data := .set #[] 0 (.fresh 0 0 (!w.params.followText "set-order")) }).objs.size := by
            rw [Heap.size_push]; exact Nat.ne_of_lt (Nat.lt_succ_of_lt hb)
          exact hm.heap b o (by simp only [List.mem_cons, List.mem_singleton, List.not_mem_nil, or_false, not_or]; exact ⟨hb1, hb2⟩) (Heap.get?_push_of_some _ (Heap.get?_push_of_some _ e))
      · cases r₂ with
        | error e => exact hr₂
        | ok fl₂ =>
          cases fl₂ with
          | ret r =>
            obtain ⟨rfl, h', tk, m, rfl, hm', hS', hk'⟩ := hr₂
            repeat (any_goals (first | assumption | wp_step))
            exact h _ _ _ hm' hS' hk'
          | _ => exact hr₂.elim
    | _ => exact hr.elim
/-- sorted(set of texts) -/
theorem sorted_setS {a : Addr} {S : Str → Bool} {n : Nat} {Q : Value → Shared → Prop} (R : SetS prog w s.heap a S n) (hh : A.handled = none) (h64 : n < 64)
    (hQ : ∀ s' p (out : Array Value) (c : Nat) (xs : List Str), (∀ b o, s.heap.get? b = some o → s'.heap.get? b = some o) → s'.gens = s.gens → s'.os = s.os → s.heap.objs.size ≤ p →
      s'.heap.get? p = some (seqObj "list" out c) → StrsAre out.toList xs → sortedS xs = true → xs.Nodup → (∀ k, k ∈ xs ↔ S k = true) → xs.length = n → Q (.ref p) s') :
    wpAny (model prog w) A (call (.builtin "sorted") [.ref a]) Q E s := by
  obtain ⟨o, es, ep, t, ho, hex, hd, g, nd, hm, hb, hf, hn, hr, hl⟩ := R
  refine Calls.call_function_entry kind_sorted plain_sorted entry_sorted (args_sorted1 _) ?_
  unfold Builtin.«sorted»
  refine wpAny_bind (m := checkCount "sorted" 1 1 _) (wpAny_pure ?_)
  refine wpAny_bind (collect_set (A := A.in1) hh ⟨o, ho, hex.1, hd⟩ hf hb hr hl fun s1 vs k1 hz g1 o1 pm => ?_)
  have hvl : vs.length = n := by rw [pm.length_eq, List.length_map, Array.length_toList]; exact hn
  have strOf : ∀ vs : List Value, (∀ v ∈ vs, ∃ k tk, v = Value.str k tk) → StrsAre vs (vs.map fun v => keyS (0, v)) := by
    intro vs
    induction vs with
    | nil => intro _; exact .nil
    | cons v vs ih =>
      intro h
      obtain ⟨k, tk, rfl⟩ := h v List.mem_cons_self
      exact .cons k tk (ih fun u hu => h u (List.mem_cons_of_mem _ hu))
  have hS : StrsAre vs (vs.map fun v => keyS (0, v)) := strOf vs fun v hv => by
    obtain ⟨e, he, q⟩ := List.mem_map.mp (pm.mem_iff.mp hv)
    obtain ⟨k, tk, h1, _⟩ := g e he
    exact ⟨k, tk, by rw [← q]; exact h1⟩
  have pk : (vs.map fun v => keyS (0, v)).Perm (es.toList.map keyS) := by
    have q := pm.map fun v => keyS (0, v)
    rw [List.map_map] at q
    exact q
  refine wpAny_bind (wpAny_newList ?_ (by rw [hvl, sizeLine_eq]; omega))
  have hoL : (s1.heap.push (seqObj "list" vs.toArray 0)).get? s1.heap.objs.size = some (seqObj "list" vs.toArray 0) := Heap.get?_push_size _ rfl
  refine wpAny_bind (wpAny_holding (wpAny_call_entry slot_list_sort ⟨_, hoL, rfl⟩ entry_list_sort
    (list_sort_treeK strKind_oneLt hoL hS.keysOf (fun v₁ v₂ rest e => keyKind_strs (by rw [← e]; exact hS)) (by rw [hvl]; exact h64) fun st' hp hs => ⟨_, rfl, ?_⟩) (args_list_sort _)))
  obtain ⟨ys, g1', g2', g3'⟩ := sorted_out_str hS hp hs
  obtain ⟨c, hc⟩ := sortedHeap_at (vs := vs) (out := (arrOf st').map (·.2)) hoL
  have pn : ys.Perm (es.toList.map keyS) := g2'.trans pk
  refine wpAny_pure ⟨_, rfl, hQ _ s1.heap.objs.size ((arrOf st').map (·.2)) c ys (fun b u e => ?_) g1 o1 hz hc g1' g3' (pn.nodup_iff.mpr nd) (fun k => by rw [pn.mem_iff, ← hm k]) ?_⟩
  · have q := k1 b u e
    have hlt := Heap.lt_size q
    show (sortedHeap (s1.heap.push (seqObj "list" vs.toArray 0)) s1.heap.objs.size vs ((arrOf st').map (·.2))).get? b = some u
    rw [sortedHeap_old (Nat.ne_of_lt hlt) (by rw [size_push']; exact Nat.lt_succ_of_lt hlt)]
    exact Heap.get?_push_of_some _ q
  · rw [pn.length_eq, List.length_map, Array.length_toList]; exact hn
end
def SetSO (P : Program) (w : World) (a : Addr) (S : Str → Bool) (n : Nat) : HO := .ext fun h => SetS P w h a S n
theorem setSO_new {P : Program} {w : World} {H : Hp} {h : Heap} {a : Addr} {S : Str → Bool} {n : Nat} (R : SetS P w h a S n) : ObjOk P w H h a (SetSO P w a S n) := by
  refine ⟨R, ?_, fun h1 h2 x k => x.at k⟩
  obtain ⟨o, es, ep, t, ho, _⟩ := R
  exact ⟨o, ho⟩
section
variable {X : Cx}
def rSetOfS (K : Fg) (P : Program) (w : World) : List V → Hp → VK → Prop := fun vs H Q => ∃ (l : Addr) (xs : List Str), vs = [V.ref l] ∧ SqL K H l (xs.map V.str) ∧ xs.length < 60 ∧ ∀ p m, H p = none → m ≤ xs.length → Q (.ref p) (upd H p (SetSO P w p (fun k => decide (k ∈ xs)) m))
theorem cr_setOfS (hc : X.calm = true) : CallR X (.type "set") (rSetOfS X.K X.prog X.w) := by
  intro pins s σ H vs us Q I r h
  obtain ⟨l, xs, rfl, hs, hz, q⟩ := h
  obtain ⟨its, rv, hl, hz'⟩ := I.list hs
  rw [Vals.ref1 r]
  refine call_set_strs (I.ok.hd hc) hl.isList (strsAre_of rv) (by unfold scanBound; omega) fun h' tk m hm R kp => ?_
  exact ⟨.ref _, upd H s.heap.objs.size (SetSO X.prog X.w s.heap.objs.size (fun k => decide (k ∈ xs)) m), I.laid kp (Nat.le_refl _) (setSO_new R), rfl, q _ m (I.hok.fresh (Nat.le_refl _)) hm⟩
def rSortedSetS (P : Program) (w : World) : List V → Hp → VK → Prop := fun vs H Q => ∃ (a : Addr) (S : Str → Bool) (n : Nat), vs = [V.ref a] ∧ H a = some (SetSO P w a S n) ∧ n < 64 ∧
  ∀ (xs : List Str) (p : Addr), sortedS xs = true → xs.Nodup → (∀ k, k ∈ xs ↔ S k = true) → H p = none → Q (.ref p) (upd H p (.lst (xs.map V.str)))
theorem cr_sortedSetS (hc : X.calm = true) : CallR X (.builtin "sorted") (rSortedSetS X.prog X.w) := by
  intro pins s σ H vs us Q I r h
  obtain ⟨a, S, n, rfl, ha, h64, q⟩ := h
  have R : SetS X.prog X.w s.heap a S n := (I.hok a _ ha).1
  rw [Vals.ref1 r]
  refine sorted_setS R (I.ok.hd hc) h64 fun s' p out c xs k g o hp hg hi hs hnd hm hl => ?_
  have hlen : (xs.map V.str).length ≤ sizeLine := by rw [List.length_map, hl, sizeLine_eq]; omega
  have hn : H p = none := I.hok.fresh hp
  have J : Inv X pins σ (upd H p (.lst (xs.map V.str))) { s with heap := s'.heap, gens := s'.gens, drawn := s'.drawn, toks := s'.toks } :=
    I.call (ch := []) (Un.laid k hp hn) (I.hok.laid k hp ⟨hlen, out.toList, c, vals_of_strs hi, hg⟩) (by rw [g]; exact I.bare) (fun _ z => nomatch z)
  have e : s' = { s with heap := s'.heap, gens := s'.gens, drawn := s'.drawn, toks := s'.toks } := by
    cases s'
    cases s
    cases o
    rfl
  rw [e]
  exact ⟨.ref p, _, J, rfl, q xs p hs hnd hm hn⟩
end
end AB
namespace AB
open PySem PySem.Spec PyProof.Rows L2
/-! ### texts in order; pairs in order -/
theorem ltS_irr (s : Str) : ltS s s = false := decide_eq_false (List.lt_irrefl _)
theorem ltS_tr {a b c : Str} (h1 : ltS a b = true) (h2 : ltS b c = true) : ltS a c = true :=
  decide_eq_true (List.lt_trans (of_decide_eq_true h1) (of_decide_eq_true h2))
theorem str_ext {a b : Str} (h : a.cps.toList = b.cps.toList) : a = b := by
  cases a with | mk a => cases b with | mk b => exact congrArg Str.mk (Array.ext' h)
theorem ltS_tri (a b : Str) : ltS a b = true ∨ a = b ∨ ltS b a = true := by
  by_cases h1 : a.cps.toList < b.cps.toList
  · exact .inl (decide_eq_true h1)
  · by_cases h2 : b.cps.toList < a.cps.toList
    · exact .inr (.inr (decide_eq_true h2))
    · exact .inr (.inl (str_ext (List.le_antisymm h2 h1)))
theorem ltS_asym {a b : Str} (h : ltS a b = true) : ltS b a = false := by
  cases q : ltS b a with
  | false => rfl
  | true => have := ltS_tr h q; rw [ltS_irr] at this; cases this
theorem ltS_ne {a b : Str} (h : ltS a b = true) : a ≠ b := fun e => by rw [e, ltS_irr] at h; cases h
def lexS (p q : Str × Int) : Bool := if p.1 = q.1 then decide (p.2 < q.2) else ltS p.1 q.1
theorem lexS_iff {p q : Str × Int} : lexS p q = true ↔ ltS p.1 q.1 = true ∨ (p.1 = q.1 ∧ p.2 < q.2) := by
  unfold lexS
  by_cases e : p.1 = q.1
  · rw [if_pos e, decide_eq_true_eq]
    constructor
    · intro h; exact .inr ⟨e, h⟩
    · rintro (h | h)
      · rw [e, ltS_irr] at h; cases h
      · exact h.2
  · rw [if_neg e]
    constructor
    · exact .inl
    · rintro (h | h)
      · exact h
      · exact absurd h.1 e
theorem lexS_no {p q : Str × Int} : lexS p q = false ↔ ltS q.1 p.1 = true ∨ (p.1 = q.1 ∧ q.2 ≤ p.2) := by
  constructor
  · intro h
    rcases ltS_tri p.1 q.1 with e | e | e
    · have := lexS_iff.mpr (.inl e); rw [h] at this; cases this
    · refine .inr ⟨e, ?_⟩
      rcases Int.lt_or_le p.2 q.2 with z | z
      · have := lexS_iff.mpr (.inr ⟨e, z⟩); rw [h] at this; cases this
      · exact z
    · exact .inl e
  · intro h
    cases q' : lexS p q with
    | false => rfl
    | true =>
      rcases lexS_iff.mp q' with a | a <;> rcases h with b | b
      · have := ltS_asym a; rw [b] at this; cases this
      · rw [b.1, ltS_irr] at a; cases a
      · rw [a.1, ltS_irr] at b; cases b
      · omega
theorem swo_lexS : SrtO.Swo lexS := by
  refine ⟨fun x y h => ?_, fun x y z h1 h2 => ?_⟩
  · refine lexS_no.mpr ?_
    rcases lexS_iff.mp h with a | a
    · exact .inl a
    · exact .inr ⟨a.1.symm, Int.le_of_lt a.2⟩
  · refine lexS_no.mpr ?_
    rcases lexS_no.mp h1 with a | a <;> rcases lexS_no.mp h2 with b | b
    · exact .inl (ltS_tr a b)
    · exact .inl (by rw [b.1]; exact a)
    · exact .inl (by rw [← a.1]; exact b)
    · exact .inr ⟨b.1.trans a.1, Int.le_trans a.2 b.2⟩
theorem lexS_anti {p q : Str × Int} (h1 : lexS p q = false) (h2 : lexS q p = false) : p = q := by
  rcases lexS_no.mp h1 with a | a <;> rcases lexS_no.mp h2 with b | b
  · have := ltS_asym a; rw [b] at this; cases this
  · rw [b.1, ltS_irr] at a; cases a
  · rw [a.1, ltS_irr] at b; cases b
  · exact Prod.ext a.1 (Int.le_antisymm b.2 a.2)
def SortedP (l : List (Str × Int)) : Prop := l.Pairwise fun p q => lexS q p = false
def insB (p : Str × Int) : Book → Book
  | [] => [p]
  | q :: l => if lexS q p = true then q :: insB p l else p :: q :: l
def sortB (l : Book) : Book := l.foldr insB []
theorem insB_perm (p : Str × Int) : ∀ l, (insB p l).Perm (p :: l)
  | [] => .refl _
  | q :: l => by
    unfold insB
    split
    · exact ((insB_perm p l).cons q).trans (List.Perm.swap ..)
    · exact .refl _
theorem sortB_perm : ∀ l, (sortB l).Perm l
  | [] => .refl _
  | p :: l => (insB_perm p (sortB l)).trans ((sortB_perm l).cons p)
theorem insB_sorted (p : Str × Int) : ∀ {l : Book}, SortedP l → SortedP (insB p l)
  | [], _ => List.pairwise_singleton _ _
  | q :: l, h => by
    obtain ⟨h1, h2⟩ := List.pairwise_cons.mp h
    unfold insB
    split
    · rename_i c
      refine List.pairwise_cons.mpr ⟨fun x hx => ?_, insB_sorted p h2⟩
      rcases List.mem_cons.mp ((insB_perm p l).mem_iff.mp hx) with e | e
      · rw [e]; exact swo_lexS.asym _ _ c
      · exact h1 x e
    · rename_i c
      have c : lexS q p = false := by simpa using c
      refine List.pairwise_cons.mpr ⟨fun x hx => ?_, h⟩
      rcases List.mem_cons.mp hx with e | e
      · rw [e]; exact c
      · exact swo_lexS.tr _ _ _ c (h1 x e)
theorem sortB_sorted : ∀ l, SortedP (sortB l)
  | [] => .nil
  | p :: l => insB_sorted p (sortB_sorted l)
theorem sorted_uniq : ∀ {l m : Book}, SortedP l → SortedP m → l.Perm m → l = m
  | [], m, _, _, h => (List.Perm.eq_nil h.symm).symm
  | x :: l, [], _, _, h => absurd h.length_eq (by simp)
  | x :: l, y :: m, hl, hm, h => by
    have hl' := List.pairwise_cons.mp hl
    have hm' := List.pairwise_cons.mp hm
    have h1 : lexS x y = false := by
      rcases List.mem_cons.mp (h.mem_iff.mp (List.mem_cons_self (a := x) (l := l))) with e | hx
      · rw [e]; exact swo_lexS.refl y
      · exact hm'.1 x hx
    have h2 : lexS y x = false := by
      rcases List.mem_cons.mp (h.mem_iff.mpr (List.mem_cons_self (a := y) (l := m))) with e | hy
      · rw [e]; exact swo_lexS.refl x
      · exact hl'.1 y hy
    have e : x = y := lexS_anti h1 h2
    subst e
    rw [sorted_uniq hl'.2 hm'.2 h.cons_inv]
theorem sort_is {l m : Book} (hl : SortedP l) (h : l.Perm m) : l = sortB m := sorted_uniq hl (sortB_sorted m) (h.trans (sortB_perm m).symm)
theorem sortB_length (l : Book) : (sortB l).length = l.length := (sortB_perm l).length_eq
/-! ### list.sort of such pairs -/
def IsSI (h : Heap) (v : Value) (x : Str) (i : Int) : Prop := ∃ a o t u n, v = .ref a ∧ h.get? a = some o ∧ o.cls = .type "tuple" ∧ o.data = .seq #[.str x t, .int i u] n
theorem IsSI.keeps {h h' : Heap} {v : Value} {x : Str} {i : Int} (p : IsSI h v x i) (k : ∀ b o, h.get? b = some o → o.cls = .type "tuple" → h'.get? b = some o) : IsSI h' v x i := by
  obtain ⟨a, o, t, u, n, e, ho, hc, hd⟩ := p
  exact ⟨a, o, t, u, n, e, k a o ho hc, hc, hd⟩
def kOf (h : Heap) (v : Value) : Str × Int := match v with
  | .ref a => (match h.get? a with
    | some o => (match o.data with
      | .seq its _ => (match its.toList with
        | [.str x _, .int i _] => (x, i)
        | _ => ("", 0))
      | _ => ("", 0))
    | _ => ("", 0))
  | _ => ("", 0)
theorem kOf_of {h : Heap} {v : Value} {x : Str} {i : Int} (p : IsSI h v x i) : kOf h v = (x, i) := by
  obtain ⟨a, o, t, u, n, e, ho, hc, hd⟩ := p
  subst e
  unfold kOf
  simp only [ho, hd]
theorem firstsS {h : Heap} : ∀ {vs : List Value}, (∀ v ∈ vs, ∃ x y, IsSI h v x y) → ∃ fs : List Value, PySem.W.KatTups h vs fs ∧ fs.length = vs.length ∧ ∀ f ∈ fs, ∃ x t, f = Value.str x t
  | [], _ => ⟨[], PySem.W.KatTups.nil, rfl, fun _ hm => by simp at hm⟩
  | v :: vs, hp => by
    obtain ⟨fs, h1, h2, h3⟩ := firstsS (vs := vs) fun v' hm => hp v' (List.mem_cons_of_mem _ hm)
    obtain ⟨x, y, a, o, t, u, n, e, ho, hc, hd⟩ := hp v (List.mem_cons_self ..)
    subst e
    refine ⟨.str x t :: fs, PySem.W.KatTups.cons ho hc hd rfl h1, by rw [List.length_cons, List.length_cons, h2], fun f hm => ?_⟩
    rcases List.mem_cons.mp hm with rfl | hm
    · exact ⟨x, t, rfl⟩
    · exact h3 f hm
section
variable {prog : Program} {w : World} {A : Around} {E : Value → Shared → Prop} {s : Shared}
theorem cmpS {vs : List Value} {k : Value → Str × Int} (hp : ∀ v ∈ vs, IsSI s.heap v (k v).1 (k v).2) : SrtO.Cmp prog w A s (tuples' true) (fun p => p.1 ∈ vs) (SrtO.lt2 fun v u => lexS (k v) (k u)) := by
  intro p q hm hm'
  have h1 := hp _ hm
  have h2 := hp _ hm'
  show wpAny (model prog w) A (keyLt' (tuples' true) p.1 q.1) (fun r s' => s' = s ∧ r = lexS (k p.1) (k q.1)) (fun _ _ => False) s
  unfold lexS ltS
  generalize (k p.1).1 = x at h1 ⊢
  generalize (k p.1).2 = y at h1 ⊢
  generalize (k q.1).1 = x' at h2 ⊢
  generalize (k q.1).2 = y' at h2 ⊢
  obtain ⟨a, o, t, u, n, e, ho, hc, hd⟩ := h1
  obtain ⟨a', o', t', u', n', e', ho', hc', hd'⟩ := h2
  rw [e, e']
  refine PySem.W.kat_lt ho hd ho' hd' ?_
  show PySem.W.KatLex prog w A true (decide (2 < 2)) _ [(.str x t, .str x' t'), (.int y u, .int y' u')] 0 s
  refine PySem.W.kat_cons (SeqAt.EqAt.str_str x t x' t' prog w _ _ ?_)
  refine PySem.W.kat_go (fun e1 => ?_) (fun e1 => ?_)
  · have ex : x = x' := by simpa using e1
    refine PySem.W.kat_yes (PySem.W.kat_cons (SeqAt.EqAt.int_int y u y' u' prog w _ _ ?_))
    refine PySem.W.kat_go (fun e2 => ?_) (fun e2 => ?_)
    · have ey : y = y' := by simpa using e2
      have e3 : (if x = x' then decide (y < y') else decide (x.cps.toList < x'.cps.toList)) = false := by
        rw [if_pos ex, ey]
        exact decide_eq_false (Int.lt_irrefl _)
      exact PySem.W.kat_yes (PySem.W.kat_nil ⟨rfl, e3.symm⟩)
    · have e3 : (if x = x' then decide (y < y') else decide (x.cps.toList < x'.cps.toList)) = decide (y < y') := if_pos ex
      refine PySem.W.kat_no (PySem.W.kat_one _ _ (PyProof.Rows.lt_int ?_))
      exact (show s = s ∧ decide (y < y') = (if x = x' then decide (y < y') else decide (x.cps.toList < x'.cps.toList)) from ⟨rfl, e3.symm⟩)
  · have ex : ¬ x = x' := by simpa using e1
    have e3 : (if x = x' then decide (y < y') else decide (x.cps.toList < x'.cps.toList)) = decide (x.cps.toList < x'.cps.toList) := if_neg ex
    exact PySem.W.kat_no (oneLt_any_str ⟨rfl, e3.symm⟩)
theorem sortableS {a : Addr} {vs : List Value} {k : Value → Str × Int} (h0 : 0 < vs.length) (hp : ∀ v ∈ vs, IsSI s.heap v (k v).1 (k v).2) (ha : ∀ o, s.heap.get? a = some o → o.cls ≠ .type "tuple") : SrtO.SortableO prog w A s a vs fun v u => lexS (k v) (k u) := by
  intro h' keep
  have hp' : ∀ v ∈ vs, IsSI h' v (k v).1 (k v).2 := fun v hm => (hp v hm).keeps fun b o e c => keep b o (fun z => by subst z; exact ha o e c) e
  obtain ⟨fs, h1, h2, h3⟩ := firstsS fun v hm => ⟨_, _, hp' v hm⟩
  refine ⟨tuples' true, fun Q E hq => ?_, cmpS hp'⟩
  refine PySem.W.kat_kind (T := .type "str") h1 (by omega) (fun f hm => ?_) (by rfl) ?_
  · obtain ⟨x, t, rfl⟩ := h3 f hm
    exact PySem.W.Looks.now
  · have e : (Value.type "str" != Value.type "tuple") = true := by first | decide +kernel | rfl | decide
    rw [e]
    exact hq
theorem call_sortS {a : Addr} {vs : List Value} {n : Nat} {k : Value → Str × Int} {Q : Value → Shared → Prop} (ho : s.heap.get? a = some (seqObj "list" vs.toArray n)) (hz : vs.length ≤ sizeLine) (hp : ∀ v ∈ vs, IsSI s.heap v (k v).1 (k v).2)
    (h : ∀ out : List Value, out.Perm vs → SortedP (out.map k) → Q .none { s with heap := sortedHeap s.heap a vs out.toArray }) : wpAny (model prog w) A (call (.builtin "list.sort") [.ref a]) Q E s := by
  have O : SrtO.Swo fun v u => lexS (k v) (k u) := ⟨fun x y => swo_lexS.asym _ _, fun x y z => swo_lexS.tr _ _ _⟩
  refine wpAny_call_entry slot_list_sort ⟨_, ho, rfl⟩ entry_list_sort (SrtO.list_sort_ord O ho hz (fun h2 => sortableS (by omega) hp fun o e => ?_) fun out h1 h2 => ⟨_, rfl, h out h2.perm (List.pairwise_map.mpr h1)⟩) (args_list_sort _)
  have e' : some o = some (seqObj "list" vs.toArray n) := e.symm.trans ho
  cases e'
  intro c
  exact absurd (Value.type.inj c) (by decide)
/-- sorted(t), t a tuple of such pairs -/
theorem sorted_tupS {t : Addr} {o : Obj} {its : List Value} {n : Nat} {k : Value → Str × Int} {Q : Value → Shared → Prop} (ho : s.heap.get? t = some o) (hc : o.cls = .type "tuple") (hd : o.data = .seq its.toArray n) (hz : its.length ≤ sizeLine) (hp : ∀ v ∈ its, IsSI s.heap v (k v).1 (k v).2)
    (h : ∀ (h1 h' : Heap) (out : List Value) (m : Nat), out.Perm its → SortedP (out.map k) → (∀ b o, s.heap.get? b = some o → h1.get? b = some o) → (∀ b o, h1.get? b = some o → h'.get? b = some o) → h'.get? h1.objs.size = some (seqObj "list" out.toArray m) → Q (.ref h1.objs.size) { s with heap := h' }) :
    wpAny (model prog w) A (call (.builtin "sorted") [.ref t]) Q E s := by
  refine Calls.call_function_entry kind_sorted plain_sorted entry_sorted (args_sorted1 _) ?_
  unfold Builtin.«sorted»
  refine wpAny_bind (m := checkCount "sorted" 1 1 _) (wpAny_pure ?_)
  refine wpAny_bind (wpAny_collect_seq (A := A.in1) t (.inr rfl) ho hc hd (fun h' kp => ?_) (by rw [List.size_toArray]; exact hz))
  have e0 : its.toArray.toList = its := by simp
  rw [e0]
  refine wpAny_bind (wpAny_newList ?_ hz)
  have hoL : (h'.push (seqObj "list" its.toArray 0)).get? h'.objs.size = some (seqObj "list" its.toArray 0) := Heap.get?_push_size _ rfl
  refine wpAny_bind (wpAny_holding (call_sortS (s := { s with heap := h'.push (seqObj "list" its.toArray 0) }) hoL hz (fun v hv => (hp v hv).keeps fun b o e _ => Heap.get?_push_of_some _ (kp b o e)) fun out p1 p2 => ?_))
  obtain ⟨c, hc'⟩ := sortedHeap_at (vs := its) (out := out.toArray) hoL
  refine wpAny_pure ⟨_, rfl, h h' _ out c p1 p2 kp (fun b u e => ?_) hc'⟩
  have hlt := Heap.lt_size e
  show (sortedHeap (h'.push (seqObj "list" its.toArray 0)) h'.objs.size its out.toArray).get? b = some u
  rw [sortedHeap_old (Nat.ne_of_lt hlt) (by rw [size_push']; exact Nat.lt_succ_of_lt hlt)]
  exact Heap.get?_push_of_some _ e
end
end AB
namespace AB
open PySem PySem.Spec PyProof.Rows L2
section
variable {X : Cx} {pins : List (Addr × Obj)} {σ : L2.St} {H : Hp} {s : Shared}
theorem pair_si (I : Inv X pins σ H s) {v : V} {p : Str × Int} (h : Dq X.K H v (dPair p)) : ∃ a, v = .ref a ∧ IsSI s.heap (.ref a) p.1 p.2 := by
  obtain ⟨a, vs, rfl, hp, hd⟩ := dp_tup h
  obtain ⟨its, o, n, rv, ho, hc, _, hdat, _⟩ := hp.plain I
  cases hd with
  | cons h1 h2 =>
    cases h2 with
    | cons h2 h3 =>
      cases h3
      cases dp_str h1
      cases dp_int h2
      obtain ⟨u1, u2, rfl, r1, r2⟩ := vals2 rv
      obtain ⟨t, rfl⟩ := r1
      obtain ⟨t2, rfl⟩ := r2
      exact ⟨a, rfl, a, o, t, t2, n, rfl, ho, hc, hdat⟩
theorem pairs_si {Hs : Hp} (I : Inv X pins σ H s) (hs : Same Hs H) : ∀ {xs : List V} {its : List Value} {ps : Book}, Vals xs its → DqAll X.K Hs xs (ps.map dPair) →
    (∀ v ∈ its, ∃ a, v = .ref a ∧ IsSI s.heap v (kOf s.heap v).1 (kOf s.heap v).2 ∧ Dq X.K Hs (.ref a) (dPair (kOf s.heap v))) ∧ its.map (kOf s.heap) = ps
  | _, _, [], .nil, _ => ⟨fun v hv => (nomatch hv), rfl⟩
  | _, _, p :: ps, .cons r t, h => by
    rw [List.map_cons] at h
    cases h with
    | cons a b =>
      obtain ⟨e1, e2⟩ := pairs_si I hs t b
      obtain ⟨x, rfl, si⟩ := pair_si I (dp_mono hs a)
      cases r
      have ek := kOf_of si
      refine ⟨fun v hv => ?_, by rw [List.map_cons, e2, ek]⟩
      rcases List.mem_cons.mp hv with rfl | hv
      · rw [ek]; exact ⟨x, rfl, si, a⟩
      · exact e1 v hv
  | _, _, [], .cons r t, h => by cases h
  | _, _, p :: ps, .nil, h => by cases h
theorem dq_out : ∀ {out : List Value} (k : Value → Str × Int), (∀ v ∈ out, ∃ a, v = .ref a ∧ Dq X.K H (.ref a) (dPair (k v))) → DqAll X.K H (out.map backV) ((out.map k).map dPair)
  | [], _, _ => .nil
  | v :: out, k, h => by
    obtain ⟨a, rfl, d⟩ := h v List.mem_cons_self
    exact .cons d (dq_out k fun u hu => h u (List.mem_cons_of_mem _ hu))
end
section
variable {X : Cx}
/-! ### sorted(t) -/
def rSortTP (K : Fg) : List V → Hp → VK → Prop := fun vs H Q => ∃ a xs ps Hs, vs = [.ref a] ∧ Same Hs H ∧ PlT K Hs a xs ∧ DqAll K Hs xs (ps.map dPair) ∧ ∀ p ys, H p = none → DqAll K Hs ys ((sortB ps).map dPair) → Q (.ref p) (upd H p (.lst ys))
theorem cr_sortTP : CallR X (.builtin "sorted") (rSortTP X.K) := by
  intro pins s σ H vs us Q I r h
  obtain ⟨a, xs, ps, Hs, rfl, hs, ha, hd, q⟩ := h
  obtain ⟨its, o, n, rv, ho, hc, _, hdat, hz⟩ := (ha.mono hs).plain I
  rw [Vals.ref1 r]
  obtain ⟨e1, e2⟩ := pairs_si I hs rv hd
  have hl := rv.length
  refine sorted_tupS (k := kOf s.heap) ho hc hdat (by omega) (fun v hv => (let ⟨_, _, z, _⟩ := e1 v hv; z)) fun h1 h' out m p1 p2 kp kp2 hl' => ?_
  have eo : out.map (kOf s.heap) = sortB ps := sort_is p2 (by rw [← e2]; exact p1.map _)
  have I1 : Inv X pins σ H { s with heap := h1 } := I.kept (t' := s.toks) kp
  have mem : ∀ v ∈ out, ∃ a, v = .ref a ∧ Dq X.K Hs (.ref a) (dPair (kOf s.heap v)) := fun v hv => (let ⟨a, z1, _, z2⟩ := e1 v (p1.mem_iff.mp hv); ⟨a, z1, z2⟩)
  have dq := dq_out (kOf s.heap) mem
  rw [eo] at dq
  refine ⟨.ref h1.objs.size, upd H h1.objs.size (.lst (out.map backV)), I1.laid (t' := s.toks) kp2 (Nat.le_refl _) ⟨?_, out, m, vals_back fun v hv => (let ⟨a, z, _⟩ := mem v hv; ⟨a, z⟩), hl'⟩, rfl, q _ _ (I1.hok.fresh (Nat.le_refl _)) dq⟩
  rw [List.length_map, p1.length_eq]; omega
/-! ### dict(t) -/
def kvS (ps : Book) : List (Key × V) := ps.map fun p => (Sum.inr p.1, V.int p.2)
def rDictT (K : Fg) : List V → Hp → VK → Prop := fun vs H Q => ∃ a xs ps, vs = [.ref a] ∧ PlT K H a xs ∧ DqAll K H xs (ps.map dPair) ∧ ∀ p, H p = none → Q (.ref p) (upd H p (.dK (mergeK [] (kvS ps))))
theorem pairs_mem (I : Inv X pins σ H s) : ∀ {xs : List V} {its : List Value} {ps : Book}, Vals xs its → DqAll X.K H xs (ps.map dPair) →
    ∃ (prs : List (Value × Value)) (Ts : List Addr), prs.length = ps.length ∧ its = Ts.map Value.ref ∧ Ts.length = ps.length ∧
      ∀ (j : Nat) (p : Str × Int), ps[j]? = some p → ∃ T t u, Ts[j]? = some T ∧ prs[j]? = some (.str p.1 t, .int p.2 u) ∧ s.heap.IsTuple T #[.str p.1 t, .int p.2 u]
  | _, _, [], .nil, _ => ⟨[], [], rfl, rfl, rfl, fun j p e => nomatch e⟩
  | _, _, p :: ps, .cons r t, h => by
    rw [List.map_cons] at h
    cases h with
    | cons a b =>
      obtain ⟨prs, Ts, e1, e2, e3, e4⟩ := pairs_mem I t b
      obtain ⟨x, rfl, a', o, t1, t2, n, ea, ho, hc, hd⟩ := pair_si I a
      cases ea
      cases r
      refine ⟨(.str p.1 t1, .int p.2 t2) :: prs, x :: Ts, by simp [e1], by rw [e2]; rfl, by simp [e3], fun j q e => ?_⟩
      cases j with
      | zero => cases e; exact ⟨x, t1, t2, rfl, rfl, o, ho, hc, n, hd⟩
      | succ j => exact e4 j q e
  | _, _, [], .cons r t, h => by cases h
  | _, _, p :: ps, .nil, h => by cases h
theorem cr_dictT (hcalm : X.calm = true) : CallR X (.type "dict") (rDictT X.K) := by
  intro pins s σ H vs us Q I r h
  obtain ⟨a, xs, ps, rfl, ha, hd, q⟩ := h
  obtain ⟨its, o, n, rv, ho, hc, hdd, hdat, hz⟩ := ha.plain I
  rw [Vals.ref1 r]
  obtain ⟨prs, Ts, e1, e2, e3, e4⟩ := pairs_mem I rv hd
  have hl := rv.length
  have hl2 := hd.len
  rw [List.length_map] at hl2
  have hK : KV (kvS ps) (prs.zip ps |>.map fun z => (Sum.inr z.2.1, z.1.2)) := by
    have : ∀ (ps : Book) (prs : List (Value × Value)), prs.length = ps.length → (∀ (j : Nat) (p : Str × Int), ps[j]? = some p → ∃ t u, prs[j]? = some (.str p.1 t, .int p.2 u)) → KV (kvS ps) (prs.zip ps |>.map fun z => (Sum.inr z.2.1, z.1.2)) := by
      intro ps
      induction ps with
      | nil => intro prs hl _; cases prs with
        | nil => exact .nil
        | cons _ _ => simp at hl
      | cons p ps ih =>
        intro prs hl hh
        cases prs with
        | nil => simp at hl
        | cons z prs =>
          obtain ⟨t, u, e⟩ := hh 0 p rfl
          cases e
          exact .cons ⟨rfl, u, rfl⟩ (ih prs (by simpa using hl) fun j q e => hh (j + 1) q (by simpa using e))
    exact this ps prs e1 fun j p e => (let ⟨_, t, u, _, z, _⟩ := e4 j p e; ⟨t, u, z⟩)
  refine PySem.call_dict_pairs (knd := mixKind X.prog X.w) (kvs := prs.zip ps |>.map fun z => (Sum.inr z.2.1, z.1.2)) (PairArg.tuple a its.toArray (fun j => Ts.getD j 0) prs) (I.ok.hd hcalm) ⟨⟨o, n, ho, hc, hdd, hdat⟩, ?_, fun j k v e => ?_⟩ ⟨?_, fun j k v e => ?_⟩ ?_ fun h' tk dd k => ?_
  · rw [List.size_toArray, ← hl, hl2, e1]
  · have hj : j < ps.length := by rw [← e1]; exact (List.getElem?_eq_some_iff.mp e).1
    obtain ⟨T, t, u, z1, z2, z3⟩ := e4 j _ (List.getElem?_eq_getElem hj)
    rw [z2] at e
    cases e
    have : Ts.getD j 0 = T := by rw [List.getD_eq_getElem?_getD, z1]; rfl
    refine ⟨?_, ?_⟩
    · rw [e2]; simp only [List.getElem?_toArray, List.getElem?_map, z1, this]; rfl
    · show PairAt s.heap (Ts.getD j 0) _ _
      rw [this]; exact .inl z3
  · rw [List.length_map, List.length_zip, e1]; omega
  · have e' : prs[j]? = some (k, v) := e
    have hj : j < ps.length := by rw [← e1]; exact (List.getElem?_eq_some_iff.mp e').1
    obtain ⟨T, t, u, z1, z2, z3⟩ := e4 j _ (List.getElem?_eq_getElem hj)
    rw [z2] at e'
    cases e'
    refine ⟨Sum.inr ps[j].1, ?_, mixKind_str X.prog X.w _ _⟩
    rw [List.getElem?_map]
    have : (prs.zip ps)[j]? = some ((.str ps[j].1 t, .int ps[j].2 u), ps[j]) := List.getElem?_zip_eq_some.mpr ⟨z2, List.getElem?_eq_getElem hj⟩
    rw [this]; rfl
  · rw [e1]; omega
  · have hm : (s.heap.objs.size == sysModules) = false := beq_eq_false_iff_ne.mpr (Nat.ne_of_gt I.big)
    have hlen : (mergeK [] (kvS ps)).length ≤ sizeLine := by
      refine Nat.le_trans (length_mergeK (kvS ps) []) ?_
      unfold kvS
      rw [List.length_nil, Nat.zero_add, List.length_map]; omega
    exact ⟨.ref s.heap.objs.size, upd H s.heap.objs.size (.dK (mergeK [] (kvS ps))), I.laid (t' := tk) (fun b o e => k b o (by simp) e) (Nat.le_refl _) (show ObjOk X.prog X.w _ _ _ (.dK (mergeK [] (kvS ps))) from ⟨hlen, hm, _, KV.merge hK .nil, dd⟩), rfl, q _ (I.hok.fresh (Nat.le_refl _))⟩
/-! ### sorted(d.items()) -/
def itO (p d : Addr) : HO := .ext fun h => h.IsItemsView p d
theorem itO_ok {P : Program} {w : World} {H : Hp} {h : Heap} {p d : Addr} (e : h.get? p = some { cls := .type "dict_items", data := .fields #[.ref d] }) : ObjOk P w H h p (itO p d) :=
  ⟨⟨_, e, rfl, rfl⟩, ⟨_, e⟩, fun h1 h2 x k => let ⟨o, ho, r⟩ := x; ⟨o, k o ho, r⟩⟩
def rItemsK : V → List V → Hp → VK → Prop := fun x xs H Q => ∃ (a : Addr) (kvs : List (Key × V)), x = .ref a ∧ xs = [] ∧ H a = some (.dK kvs) ∧ ∀ p, H p = none → Q (.ref p) (upd H p (itO p a))
theorem mt_itemsK : MtR X "dict.items" rItemsK := by
  intro pins s σ H x xs v us Q I rx rxs h
  obtain ⟨a, kvs, rfl, rfl, ha, q⟩ := h
  cases rx
  cases rxs
  obtain ⟨z, hd, vs, rel, o, es, ep, ho, hx, hdat, _⟩ := dk_of I.hok ha
  refine DT.callItems (es := es) (ep := ep) hd ⟨o, ho, hx, hdat⟩ ?_
  have hf : H s.heap.objs.size = none := I.hok.fresh (Nat.le_refl _)
  exact ⟨.ref s.heap.objs.size, upd H s.heap.objs.size (itO s.heap.objs.size a), I.laid (t' := s.toks) (fun b u e => Heap.get?_push_of_some _ e) (Nat.le_refl _) (itO_ok (Heap.get?_push_size _ rfl)), rfl, q _ hf⟩
/-- tuples already laid are tracked as they stand -/
theorem takeF {pins : List (Addr × Obj)} {σ : L2.St} {H0 : Hp} {s : Shared} {h' : Heap} {tk : Nat} {P : Addr → HO → Prop} (I0 : Inv X pins σ H0 s) : ∀ (L : List Addr) (H1 : Hp), Inv X pins σ H1 { s with heap := h', toks := tk } → L.Nodup →
    (∀ a ∈ L, s.heap.objs.size ≤ a ∧ H1 a = none ∧ ∃ o, P a o ∧ ∀ H2, ObjOk X.prog X.w H2 h' a o) →
    ∃ H2, Inv X pins σ H2 { s with heap := h', toks := tk } ∧ (∀ b o, H1 b = some o → H2 b = some o) ∧ ∀ a ∈ L, ∃ o, P a o ∧ H2 a = some o
  | [], H1, I1, _, _ => ⟨H1, I1, fun _ _ e => e, fun _ h => nomatch h⟩
  | a :: L, H1, I1, hn, h => by
    obtain ⟨hb, hnone, o, hP, ok⟩ := h a (List.mem_cons_self ..)
    have I2 : Inv X pins σ (upd H1 a o) { s with heap := h', toks := tk } := I1.take (h' := h') (t' := tk) (fun b ob _ e => e) (I0.fpOk hb hnone) (ok _)
    rw [List.nodup_cons] at hn
    obtain ⟨H2, I3, g, q⟩ := takeF I0 L (upd H1 a o) I2 hn.2 fun c hc => by
      obtain ⟨c1, c2, c3⟩ := h c (List.mem_cons_of_mem _ hc)
      exact ⟨c1, by rw [upd_ne (fun z => hn.1 (by rw [← z]; exact hc))]; exact c2, c3⟩
    refine ⟨H2, I3, fun b o e => g b o (by rw [upd_ne (ne_of_none e hnone)]; exact e), fun c hc => ?_⟩
    rcases List.mem_cons.mp hc with rfl | hc
    · exact ⟨o, hP, g _ _ upd_same⟩
    · exact q c hc
abbrev NewP (H H' : Hp) (y : V) (q : Str × Int) : Prop := ∃ t o, y = .ref t ∧ H t = none ∧ H' t = some (.frz o (.tup [.str q.1, .int q.2])) ∧ o.dict = none
def rSortItS : List V → Hp → VK → Prop := fun vs H Q => ∃ (p a : Addr) (ps : Book), vs = [.ref p] ∧ H p = some (itO p a) ∧ H a = some (.dK (kvS ps)) ∧
  ∀ (H' : Hp) (l : Addr) (ys : List V), (∀ b o, H b = some o → H' b = some o) → H l = none → H' l = some (.lst ys) → Paired (NewP H H') ys (sortB ps) → Q (.ref l) H'
theorem paired_of_mem {α β : Type} {F : α → β → Prop} (f : α → β) : ∀ {l : List α}, (∀ x ∈ l, F x (f x)) → Paired F l (l.map f)
  | [], _ => .nil
  | x :: l, h => .cons (h x List.mem_cons_self) (paired_of_mem f fun y hy => h y (List.mem_cons_of_mem _ hy))
theorem cr_sortItS (hc : X.calm = true) : CallR X (.builtin "sorted") rSortItS := by
  intro pins s σ H xs us Q I r h
  obtain ⟨p, a, ps, rfl, hp, ha, q⟩ := h
  obtain rfl := Vals.ref1 r
  have view : s.heap.IsItemsView p a := (show ObjOk X.prog X.w H s.heap p (itO p a) from I.hok p _ hp).1
  obtain ⟨z, hd, vs, rel, o, es, ep, ho, hx, hdat, _, hprs, hnd⟩ := dk_of I.hok ha
  have l1 : (kvS ps).length = vs.length := Paired.length rel
  have l0 : (kvS ps).length = ps.length := by unfold kvS; rw [List.length_map]
  have l2 : es.toList.length = vs.length := hprs.length
  rw [Array.length_toList] at l2
  have hh : X.A.handled = none := I.ok.hd hc
  refine DT.sortedI (es := es) (ep := ep) hh view ⟨o, ho, hx, hdat⟩ (by omega) fun h' tk as hk hlt hl hG => ?_
  have nd : as.Nodup := List.Pairwise.imp (fun h => Nat.ne_of_lt h) hG.rise
  have pr : ∀ (j : Nat) (b : Addr), as[j]? = some b → ∃ (e : Str × Int) (t u : Tok), ps[j]? = some e ∧ h'.get? b = some { cls := .type "tuple", data := .seq #[Value.str e.1 t, Value.int e.2 u] } := by
    intro j b hj
    obtain ⟨en, he, hg⟩ := hG.pairs j b hj
    have hjl : j < ps.length := by
      have := (List.getElem?_eq_some_iff.mp hj).1
      omega
    have hv : ∃ kv, vs[j]? = some kv := ⟨_, List.getElem?_eq_getElem (by omega)⟩
    obtain ⟨⟨k, v⟩, hv⟩ := hv
    have hks : (kvS ps)[j]? = some (Sum.inr ps[j].1, V.int ps[j].2) := by unfold kvS; rw [List.getElem?_map, List.getElem?_eq_getElem hjl]; rfl
    have rel' : ∀ {kvs : List (Key × V)} {vs : List (Key × Value)} {j : Nat} {x : Key × V} {y : Key × Value}, KV kvs vs → kvs[j]? = some x → vs[j]? = some y → x.1 = y.1 ∧ RelV x.2 y.2 := by
      intro kvs vs j x y R
      unfold KV at R
      induction R generalizing j with
      | nil => intro e; cases e
      | cons a _ ih =>
        cases j with
        | zero => intro e1 e2; cases e1; cases e2; exact a
        | succ j => intro e1 e2; exact ih (by simpa using e1) (by simpa using e2)
    obtain ⟨r1, r2⟩ := rel' rel hks hv
    obtain ⟨p1, p2⟩ := hprs.get? (i := j) (e := en) (k := k) (v := v) (by rw [← he]; simp) hv
    cases (show Sum.inr ps[j].1 = k from r1)
    obtain ⟨u, hu⟩ := (show ∃ u, v = Value.int ps[j].2 u from r2)
    obtain ⟨t, ht⟩ : ∃ t, en.key = Value.str ps[j].1 t := by
      rcases keyIs_shape (show keyIs (Sum.inr ps[j].1) en.key = true from p1) with ⟨i, t, ek, ev⟩ | ⟨z, t, ek, ev⟩
      · cases ek
      · cases ek; exact ⟨t, ev⟩
    refine ⟨ps[j], t, u, List.getElem?_eq_getElem hjl, ?_⟩
    rw [hg, ht, p2, hu]
  have hob : (h'.push { cls := .type "list", data := .seq (as.map Value.ref).toArray }).get? h'.objs.size = some (seqObj "list" (as.map Value.ref).toArray 0) := Heap.get?_push_size _ rfl
  have kb : ∀ b o, h'.get? b = some o → (h'.push { cls := .type "list", data := .seq (as.map Value.ref).toArray }).get? b = some o := fun b o e => Heap.get?_push_of_some _ e
  have ne0 : ∀ b o, h'.get? b = some o → b ≠ h'.objs.size := fun b o e => Nat.ne_of_lt (Heap.lt_size e)
  generalize h'.push { cls := .type "list", data := .seq (as.map Value.ref).toArray } = h2 at hob kb ⊢
  have si : ∀ v ∈ as.map Value.ref, ∃ (j : Nat) (b : Addr) (e : Str × Int), v = .ref b ∧ as[j]? = some b ∧ ps[j]? = some e ∧ IsSI h2 v e.1 e.2 := by
    intro v hv
    obtain ⟨b, hb, rfl⟩ := List.mem_map.mp hv
    obtain ⟨j, hj⟩ := List.mem_iff_getElem?.mp hb
    obtain ⟨e, t, u, he, hg⟩ := pr j b hj
    exact ⟨j, b, e, rfl, hj, he, b, _, t, u, 0, rfl, kb _ _ hg, rfl, rfl⟩
  have mapk : (as.map Value.ref).map (kOf h2) = ps := by
    refine List.ext_getElem? fun j => ?_
    rw [List.getElem?_map, List.getElem?_map]
    cases hj : as[j]? with
    | none => rw [Option.map_none, Option.map_none, List.getElem?_eq_none]; have := List.getElem?_eq_none_iff.mp hj; omega
    | some b =>
      obtain ⟨e, t, u, he, hg⟩ := pr j b hj
      rw [he, Option.map_some, Option.map_some, kOf_of (x := e.1) (i := e.2) ⟨b, _, t, u, 0, rfl, kb _ _ hg, rfl, rfl⟩]
  refine call_sortS (s := { s with heap := h2, toks := tk }) (k := kOf h2) hob (by rw [List.length_map]; omega) (fun v hv => ?_) fun out p1 p2 => ?_
  · obtain ⟨j, b, e, _, _, _, x⟩ := si v hv
    rw [kOf_of x]; exact x
  have eo : out.map (kOf h2) = sortB ps := sort_is p2 (by rw [← mapk]; exact p1.map _)
  have kF : ∀ b o, b ≠ h'.objs.size → h2.get? b = some o → (sortedHeap h2 h'.objs.size (as.map Value.ref) out.toArray).get? b = some o := fun b o hb e => (PyProof.Rows.sortedHeap_old hb (Heap.lt_size e)).trans e
  have kS : ∀ b o, s.heap.get? b = some o → (sortedHeap h2 h'.objs.size (as.map Value.ref) out.toArray).get? b = some o := fun b o e => kF b o (ne0 _ _ (hk b o e)) (kb b o (hk b o e))
  obtain ⟨eF, heF⟩ := PyProof.Rows.sortedHeap_at (vs := as.map Value.ref) (out := out.toArray) hob
  have I1 : Inv X pins σ H { s with heap := sortedHeap h2 h'.objs.size (as.map Value.ref) out.toArray, toks := tk } := I.kept (t' := tk) kS
  have hn0 : H h'.objs.size = none := I.hok.fresh (Nat.le_of_lt hlt)
  have refs : ∀ v ∈ out, ∃ a, v = Value.ref a := fun v hv => (let ⟨_, b, _, z, _⟩ := si v (p1.mem_iff.mp hv); ⟨b, z⟩)
  have I2 : Inv X pins σ (upd H h'.objs.size (.lst (out.map backV))) { s with heap := sortedHeap h2 h'.objs.size (as.map Value.ref) out.toArray, toks := tk } :=
    I1.take (h' := sortedHeap h2 h'.objs.size (as.map Value.ref) out.toArray) (t' := tk) (fun b ob _ e => e) (I.fpOk (Nat.le_of_lt hlt) hn0) ⟨by rw [List.length_map, p1.length_eq, List.length_map]; omega, out, eF, vals_back refs, heF⟩
  obtain ⟨H2, I3, g, qt⟩ := takeF (P := fun b o => ∃ (j : Nat) (e : Str × Int) (ob : Obj), as[j]? = some b ∧ ps[j]? = some e ∧ o = .frz ob (.tup [.str e.1, .int e.2]) ∧ ob.dict = none) I as _ I2 nd fun b hb => by
    obtain ⟨j, hj⟩ := List.mem_iff_getElem?.mp hb
    obtain ⟨e, t, u, he, hg⟩ := pr j b hj
    have hbl : s.heap.objs.size ≤ b := Nat.le_of_lt (hG.above b hb)
    have hF := kF _ _ (ne0 _ _ hg) (kb _ _ hg)
    refine ⟨hbl, ?_, _, ⟨j, e, _, hj, he, rfl, rfl⟩, fun H3 => ⟨hF, (by rw [sizeLine_eq]; show 2 ≤ 16777216; omega), [Value.str e.1 t, Value.int e.2 u], .cons ⟨t, rfl⟩ (.cons ⟨u, rfl⟩ .nil), ⟨_, hF, rfl, 0, rfl⟩⟩⟩
    rw [upd_ne (ne0 _ _ hg)]
    exact I.hok.fresh hbl
  have gr : ∀ b o, H b = some o → H2 b = some o := fun b o e => g b o (by rw [upd_ne (ne_of_none e hn0)]; exact e)
  refine ⟨.ref h'.objs.size, H2, I3, rfl, q H2 h'.objs.size (out.map backV) gr hn0 (g _ _ upd_same) ?_⟩
  rw [← eo]
  have : ∀ l : List Value, (∀ v ∈ l, v ∈ as.map Value.ref) → Paired (NewP H H2) (l.map backV) (l.map (kOf h2)) := by
    intro l
    induction l with
    | nil => intro _; exact .nil
    | cons v l ih =>
      intro hm
      obtain ⟨j, b, e, rfl, hj, he, x⟩ := si v (hm v List.mem_cons_self)
      obtain ⟨ob, ⟨j', e', ob', hj', he', rfl, hd'⟩, hH⟩ := qt b (List.mem_of_getElem? hj)
      have eij : j = j' := (List.getElem?_inj (List.getElem?_eq_some_iff.mp hj).1 nd).mp (hj.trans hj'.symm)
      subst eij
      cases Option.some.inj (he.symm.trans he')
      refine .cons ?_ (ih fun u hu => hm u (List.mem_cons_of_mem _ hu))
      rw [kOf_of x]
      exact ⟨b, ob', rfl, I.hok.fresh (Nat.le_of_lt (hG.above b (List.mem_of_getElem? hj))), hH, hd'⟩
  exact this out fun v hv => p1.mem_iff.mp hv
end
end AB
namespace AB
open PySem PySem.Spec PyProof.Rows L2
section
variable {X : Cx} {M : Mem} {e a b c : Expr} {es : List Expr} {ρ : Env} {d x y z : D} {ds : List D} {pos p p2 apos cpos : Pos} {Φ : Sl → Mem → Prop} {mo : MO} {Ψ : Post} {ps : Book}
theorem boot_sorted : bootBuiltins "sorted" = some (.builtin "sorted") := by decide +kernel
theorem boot_dict : bootBuiltins "dict" = some (.type "dict") := by decide +kernel
theorem boot_set : bootBuiltins "set" = some (.type "set") := by decide +kernel
/-- sorted(t), t a tuple of keys and worths -/
theorem pd_sortedT (hg : Gl X "sorted") (hm : X.mg "sorted" = none) (ha : PD X e ρ M (dBook ps)) (hs : starEach [e] X.env = (false, eval e X.env) :: starEach [] X.env := by rfl) : PD X (.Call (.Name "sorted" p) [e] [] pos) ρ M (.list ((sortB ps).map dPair)) :=
  pd_callB cr_sortTP (fun Hs H vs Q s p k => by
    cases p with
    | cons h1 h2 =>
      cases h2
      obtain ⟨t, ws, rfl, h3, h4⟩ := dp_tup h1
      refine ⟨t, ws, ps, Hs, rfl, s, h3, h4, fun l ys hl hy => k _ _ _ (.new s hl) (.lst (.of upd_same) (dpAll_mono (same_upd (s.free hl)) hy))⟩) hg hm boot_sorted (pds_cons ha pds_nil hs) (by decide) (by decide) hs
/-- a thing's dict with int worths -/
abbrev dB (ps : Book) : MO := dctF PyData.int ps
theorem rep_kvS {K : Fg} {Hs : Hp} {vs : List (Key × V)} : ∀ {ps : Book} {vs : List (Key × V)}, Paired (PairD K Hs PyData.int) vs ps → vs = kvS ps
  | [], _, h => by cases h; rfl
  | p :: ps, _, h => by
    cases h with
    | @cons q _ _ _ x y =>
      rw [rep_kvS (vs := []) y]
      show q :: kvS ps = kvS (p :: ps)
      unfold kvS
      rw [List.map_cons]
      congr 1
      exact Prod.ext x.1 (dp_int x.2)
theorem kvS_rep {K : Fg} {Hs : Hp} : ∀ {ps : Book}, Paired (PairD K Hs PyData.int) (kvS ps) ps
  | [] => .nil
  | p :: ps => .cons ⟨rfl, .int _⟩ kvS_rep
/-- dict(t), t a tuple of keys and worths -/
theorem pn_dictT (hc : X.calm = true) (hg : Gl X "dict") (hm : X.mg "dict" = none) (ha : PD X e ρ M (dBook ps)) (hs : starEach [e] X.env = (false, eval e X.env) :: starEach [] X.env := by rfl) : PN X (.Call (.Name "dict" p) [e] [] pos) ρ M (dB (mergeA ps)) :=
  ⟨fun Hs H σ Q r q k => PE.w (pe_callTy (cr_dictT hc) hg hm boot_dict pa_w (by decide) (by decide) hs) (by
    refine (pds_cons ha pds_nil hs).run Hs H σ _ r q fun vs Hs1 H1 g1 p1 => ?_
    cases p1 with
    | cons h1 h2 =>
      cases h2
      obtain ⟨t, ws, rfl, h3, h4⟩ := dp_tup h1
      refine ⟨t, ws, ps, rfl, h3.mono g1.i, dpAll_mono g1.i h4, fun l hl => ?_⟩
      have gn : Grow Hs1 H1 Hs1 (upd H1 l (.dK (mergeK [] (kvS ps)))) := .newH g1.i hl
      have n0 : H l = none := by
        cases q : H l with
        | none => rfl
        | some o => rw [g1.h l o q] at hl; cases hl
      exact k l _ _ _ (g1.trans gn) n0 (g1.i.free hl) upd_same (dct_rep (merge_rel kvS_rep .nil)))⟩
/-- dict(d): a copy -/
theorem pn_dictD {α : Type} {f : α → D} {kvs : List (Str × α)} (hg : Gl X "dict") (hm : X.mg "dict" = none) (ha : PO' X e ρ M (dctF f kvs)) (hs : starEach [e] X.env = (false, eval e X.env) :: starEach [] X.env := by rfl) : PN X (.Call (.Name "dict" p) [e] [] pos) ρ M (dctF f kvs) :=
  ⟨fun Hs H σ Q r q k => PE.w (pe_callTy call_dictD hg hm boot_dict (pa_cons pe_w pa_nil hs) (by decide) (by decide) hs) (ha.run Hs H σ _ r q fun a o Hs1 H1 g1 e1 e2 => by
    obtain ⟨vs, rfl, rel⟩ := rep_dct e2
    refine ⟨a, vs, rfl, .inl e1, fun l hl => ?_⟩
    have gn : Grow Hs1 H1 Hs1 (upd H1 l (.dK vs)) := .newH g1.i hl
    have n0 : H l = none := by
      cases q : H l with
      | none => rfl
      | some o => rw [g1.h l o q] at hl; cases hl
    exact k l _ _ _ (g1.trans gn) n0 (g1.i.free hl) upd_same e2)⟩
/-- list(d): its keys -/
theorem keys_strs {K : Fg} {Hs : Hp} {α : Type} {f : α → D} : ∀ {kvs : List (Str × α)} {vs : List (Key × V)}, Paired (PairD K Hs f) vs kvs → (vs.map fun kv => kV kv.1) = (kvs.map (·.1)).map V.str
  | [], _, h => by cases h; rfl
  | q :: kvs, _, h => by
    cases h with
    | cons a y => rw [List.map_cons, List.map_cons, List.map_cons, keys_strs y, a.1]; rfl
theorem pd_listD {α : Type} {f : α → D} {kvs : List (Str × α)} (hc : X.calm = true) (hg : Gl X "list") (hm : X.mg "list" = none) (ha : PO' X e ρ M (dctF f kvs)) (hs : starEach [e] X.env = (false, eval e X.env) :: starEach [] X.env := by rfl) : PD X (.Call (.Name "list" p) [e] [] pos) ρ M (.list ((kvs.map (·.1)).map .str)) :=
  pd_of (pe_callTy (call_list_dK hc) hg hm boot_list (pa_cons pe_w pa_nil hs) (by decide) (by decide) hs) fun Hs H σ Q r q k => ha.run Hs H σ _ r q fun a o Hs1 H1 g1 e1 e2 => by
    obtain ⟨vs, rfl, rel⟩ := rep_dct e2
    refine ⟨a, vs, rfl, e1, fun l hl => ?_⟩
    rw [keys_strs rel]
    exact k _ _ _ (g1.trans (.new g1.i hl)) (.lst (.of upd_same) dpAll_strs')
/-- sorted(d.items()) -/
theorem new_data {K : Fg} {H H' Hs' : Hp} (hw : ∀ b, H b = none → Hs' b = H' b) : ∀ {ys : List V} {ps : Book}, Paired (NewP H H') ys ps → DqAll K Hs' ys (ps.map dPair)
  | _, [], h => by cases h; exact .nil
  | _, p :: ps, h => by
    cases h with
    | cons x y =>
      obtain ⟨t, o, rfl, h1, h2, h3⟩ := x
      exact .cons (.tup (.of (by rw [hw t h1]; exact h2) h3) (.cons (.str _) (.cons (.int _) .nil))) (new_data hw y)
theorem pd_sortedItems (hc : X.calm = true) (hg : Gl X "sorted") (hm : X.mg "sorted" = none) (ha : PO' X e ρ M (dB ps)) (hbase : attributeBase e "items" X.env (eval e X.env) = eval e X.env := by rfl) (hline : (apos.endLine == cpos.line) = true := by rfl)
    (hs : starEach [.Call (.Attribute e "items" apos) [] [] cpos] X.env = (false, eval (.Call (.Attribute e "items" apos) [] [] cpos) X.env) :: starEach [] X.env := by rfl) : PD X (.Call (.Name "sorted" p) [.Call (.Attribute e "items" apos) [] [] cpos] [] pos) ρ M (.list ((sortB ps).map dPair)) :=
  pd_of (pe_callB (cr_sortItS hc) hg hm boot_sorted (pa_cons (pe_bm0 PySem.F.plainAttrs_dict PySem.F.slot_dict_items PySem.F.type_dict_items mt_itemsK pe_w hbase hline) pa_nil hs) (by decide) (by decide) hs) fun Hs H σ Q r q k => ha.run Hs H σ _ r q fun a o Hs1 H1 g1 e1 e2 => by
    obtain ⟨vs, rfl, rel⟩ := rep_dct e2
    have ev := rep_kvS (vs := []) rel
    subst ev
    refine ⟨.inr (.inr (.inl ⟨rfl, .inl ⟨_, e1⟩⟩)), a, _, rfl, rfl, e1, fun w hw => ?_⟩
    refine ⟨w, a, ps, rfl, upd_same, by rw [upd_ne (ne_of_none e1 hw)]; exact e1, fun H' l ys kp hl hl' hy => ?_⟩
    have kp' : Same H1 H' := fun b o e => kp b o (by rw [upd_ne (ne_of_none e hw)]; exact e)
    have nn : ∀ b, upd H1 w (itO w a) b = none → H1 b = none := fun b hb => by
      by_cases z : b = w
      · subst z; exact hw
      · rw [upd_ne z] at hb; exact hb
    let Hs2 : Hp := fun b => if (H1 b).isNone then H' b else Hs1 b
    have t1 : ∀ b, H1 b = none → Hs2 b = H' b := fun b hb => by show (if (H1 b).isNone then H' b else Hs1 b) = H' b; rw [hb]; rfl
    have t2 : ∀ b, H1 b ≠ none → Hs2 b = Hs1 b := fun b hb => by
      show (if (H1 b).isNone then H' b else Hs1 b) = Hs1 b
      cases z : H1 b with
      | none => exact absurd z hb
      | some o => rfl
    have gg : Grow Hs1 H1 Hs2 H' := by
      refine ⟨kp', fun b o e => ?_, fun b o e => ?_, fun b h1 h2 => by rw [t2 b h2]; exact h1⟩
      · have := g1.i b o e
        rw [t2 b (by rw [this]; intro z; cases z)]; exact e
      · cases z : H1 b with
        | none => rw [t1 b z] at e; exact e
        | some u =>
          rw [t2 b (by rw [z]; intro z; cases z)] at e
          exact kp' b o (g1.i b o e)
    refine k _ Hs2 H' (g1.trans gg) (.lst (.of (by rw [t1 l (nn l hl)]; exact hl')) (new_data (H := upd H1 w (itO w a)) (fun b hb => t1 b (nn b hb)) hy))
end
/-! ### texts, each once, in order -/
def insS (k : Str) : List Str → List Str
  | [] => [k]
  | x :: l => if k = x then x :: l else if ltS k x = true then k :: x :: l else x :: insS k l
def keySet (xs : List Str) : List Str := xs.foldr insS []
def Rise (l : List Str) : Prop := l.Pairwise fun a b => ltS a b = true
theorem insS_mem (k j : Str) : ∀ l, j ∈ insS k l ↔ j = k ∨ j ∈ l
  | [] => by simp [insS]
  | x :: l => by
    unfold insS
    split
    · rename_i e; subst e; simp
    · split
      · simp
      · simp only [List.mem_cons, insS_mem k j l]
        constructor
        · rintro (h | h | h) <;> simp [h]
        · rintro (h | h | h) <;> simp [h]
theorem keySet_mem (j : Str) : ∀ xs, j ∈ keySet xs ↔ j ∈ xs
  | [] => by simp [keySet]
  | x :: xs => by
    show j ∈ insS x (keySet xs) ↔ _
    rw [insS_mem, keySet_mem j xs, List.mem_cons]
theorem insS_rise (k : Str) : ∀ {l : List Str}, Rise l → Rise (insS k l)
  | [], _ => List.pairwise_singleton _ _
  | x :: l, h => by
    obtain ⟨h1, h2⟩ := List.pairwise_cons.mp h
    unfold insS
    split
    · exact h
    · rename_i ne
      split
      · rename_i lt
        refine List.pairwise_cons.mpr ⟨fun y hy => ?_, h⟩
        rcases List.mem_cons.mp hy with e | e
        · rw [e]; exact lt
        · exact ltS_tr lt (h1 y e)
      · rename_i nlt
        refine List.pairwise_cons.mpr ⟨fun y hy => ?_, insS_rise k h2⟩
        rcases (insS_mem k y l).mp hy with e | e
        · rw [e]
          rcases ltS_tri x k with z | z | z
          · exact z
          · exact absurd z.symm ne
          · exact absurd z nlt
        · exact h1 y e
theorem keySet_rise : ∀ xs, Rise (keySet xs)
  | [] => .nil
  | x :: xs => insS_rise x (keySet_rise xs)
theorem insS_len (k : Str) : ∀ l, (insS k l).length ≤ l.length + 1
  | [] => by simp [insS]
  | x :: l => by
    unfold insS
    split
    · simp
    · split
      · simp
      · have := insS_len k l
        simp only [List.length_cons]; omega
theorem keySet_len : ∀ xs, (keySet xs).length ≤ xs.length
  | [] => Nat.le_refl _
  | x :: xs => by
    have h1 := insS_len x (keySet xs)
    have h2 := keySet_len xs
    show (insS x (keySet xs)).length ≤ _
    rw [List.length_cons]; omega
theorem rise_uniq : ∀ {l m : List Str}, Rise l → Rise m → (∀ k, k ∈ l ↔ k ∈ m) → l = m
  | [], [], _, _, _ => rfl
  | [], y :: m, _, _, h => absurd ((h y).mpr List.mem_cons_self) (by simp)
  | x :: l, [], _, _, h => absurd ((h x).mp List.mem_cons_self) (by simp)
  | x :: l, y :: m, hl, hm, h => by
    obtain ⟨a1, a2⟩ := List.pairwise_cons.mp hl
    obtain ⟨b1, b2⟩ := List.pairwise_cons.mp hm
    have e : x = y := by
      rcases List.mem_cons.mp ((h x).mp List.mem_cons_self) with e | hx
      · exact e
      · rcases List.mem_cons.mp ((h y).mpr List.mem_cons_self) with e | hy
        · exact e.symm
        · have := ltS_asym (b1 x hx); rw [a1 y hy] at this; cases this
    subst e
    rw [rise_uniq a2 b2 fun k => ?_]
    constructor
    · intro hk
      rcases List.mem_cons.mp ((h k).mp (List.mem_cons_of_mem _ hk)) with e | z
      · have := a1 k hk; rw [e, ltS_irr] at this; cases this
      · exact z
    · intro hk
      rcases List.mem_cons.mp ((h k).mpr (List.mem_cons_of_mem _ hk)) with e | z
      · have := b1 k hk; rw [e, ltS_irr] at this; cases this
      · exact z
theorem rise_of : ∀ {ys : List Str}, sortedS ys = true → ys.Nodup → Rise ys
  | [], _, _ => .nil
  | [x], _, _ => List.pairwise_singleton _ _
  | x :: y :: r, h, hn => by
    obtain ⟨n1, n2⟩ := List.nodup_cons.mp hn
    have h' : risingS x (y :: r) = true := h
    have hy : ltCps y.cps.toList x.cps.toList = false ∧ risingS y r = true := by
      unfold risingS at h'
      cases q : ltCps y.cps.toList x.cps.toList with
      | true => simp [q] at h'
      | false => simpa [q] using h'
    have R := rise_of (ys := y :: r) hy.2 n2
    have lt : ltS x y = true := by
      rcases ltS_tri x y with z | z | z
      · exact z
      · exact absurd (z ▸ List.mem_cons_self) n1
      · have z' : y.cps.toList < x.cps.toList := of_decide_eq_true z
        have := hy.1
        rw [ltCps_eq] at this
        exact absurd z' (of_decide_eq_false this)
    refine List.pairwise_cons.mpr ⟨fun z hz => ?_, R⟩
    rcases List.mem_cons.mp hz with e | e
    · rw [e]; exact lt
    · exact ltS_tr lt ((List.pairwise_cons.mp R).1 z e)
section
variable {X : Cx} {M : Mem} {e a b c : Expr} {es : List Expr} {ρ : Env} {d x y z : D} {ds : List D} {pos p p2 apos cpos : Pos} {Φ : Sl → Mem → Prop} {mo : MO} {Ψ : Post} {ps : Book} {xs : List Str}
/-- sorted(set(xs)), xs a list of texts -/
theorem pd_sortedSet (hc : X.calm = true) (hg : Gl X "sorted") (hm : X.mg "sorted" = none) (hg2 : Gl X "set") (hm2 : X.mg "set" = none) (ha : PD X e ρ M (.list (xs.map .str))) (hz : xs.length < 60) (hs2 : starEach [e] X.env = (false, eval e X.env) :: starEach [] X.env := by rfl)
    (hs : starEach [.Call (.Name "set" p2) [e] [] cpos] X.env = (false, eval (.Call (.Name "set" p2) [e] [] cpos) X.env) :: starEach [] X.env := by rfl) : PD X (.Call (.Name "sorted" p) [.Call (.Name "set" p2) [e] [] cpos] [] pos) ρ M (.list ((keySet xs).map .str)) :=
  pd_of (pe_callB (cr_sortedSetS hc) hg hm boot_sorted (pa_cons (pe_callTy (cr_setOfS hc) hg2 hm2 boot_set (pa_cons pe_w pa_nil hs2) (by decide) (by decide) hs2) pa_nil hs) (by decide) (by decide) hs) fun Hs H σ Q r q k => ha.run Hs H σ _ r q fun v Hs1 H1 g1 p1 => by
    obtain ⟨l, ws, rfl, h1, h2⟩ := dp_lst p1
    have ew := dpAll_strs h2
    subst ew
    refine ⟨l, xs, rfl, g1.i.seq h1, hz, fun w m hw hm' => ?_⟩
    refine ⟨w, _, m, rfl, upd_same, by omega, fun ys t hys hn hmem ht => ?_⟩
    have ey : ys = keySet xs := rise_uniq (rise_of hys hn) (keySet_rise xs) fun j => by rw [hmem j, decide_eq_true_eq, keySet_mem]
    rw [ey]
    have g2 : Grow Hs1 H1 Hs1 (upd H1 w (SetSO X.prog X.w w (fun k => decide (k ∈ xs)) m)) := .newH g1.i hw
    exact k _ _ _ ((g1.trans g2).trans (.new g2.i ht)) (.lst (.of upd_same) dpAll_strs')
/-! ### what a dict holds -/
variable {α : Type} {f : α → D} {kvs : List (Str × α)} {k : Str}
theorem pd_dgetS {v : α} (hu : X.A.units + 1 < cLine) (ho : PO' X a ρ M (dctF f kvs)) (hk : PD X b ρ M (.str k)) (hv : lookA kvs k = some v) (hs : NoSl b := by exact fun _ _ => rfl) : PD X (.Subscript a b pos) ρ M (f v) :=
  pd_of (pe_dget hu pe_w pe_w hs) fun Hs H σ Q r q kk => ho.run Hs H σ _ r q fun l o Hs1 H1 g1 e1 e2 => by
    obtain ⟨vs, rfl, rel⟩ := rep_dct e2
    refine hk.run Hs1 H1 σ _ (r.grow g1) (q.mono g1.s) fun u Hs2 H2 g2 p2 => ?_
    have hv' := dp_str p2
    subst hv'
    rcases look_rel rel k with ⟨v', x, y1, y2, y3⟩ | ⟨y1, y2⟩
    · rw [hv] at y2
      cases y2
      refine ⟨l, v', rfl, DGet.k (k := Sum.inr k) (g2.h _ _ e1) |> (fun z => by rw [y1] at z; exact z), ?_⟩
      exact kk _ Hs2 H2 (g1.trans g2) (dp_mono g2.s y3)
    · rw [hv] at y2; cases y2
theorem look_some {K : Fg} {Hs : Hp} {vs : List (Key × V)} (rel : Paired (PairD K Hs f) vs kvs) (k : Str) : (valV vs (Sum.inr k)).isSome = (lookA kvs k).isSome := by
  rcases look_rel rel k with ⟨v', x, y1, y2, y3⟩ | ⟨y1, y2⟩ <;> rw [y1, y2] <;> rfl
theorem din (hk : PD X a ρ M (.str k)) (ho : PO' X b ρ M (dctF f kvs)) (g : Bool → Bool) (Hs H : Hp) (σ : L2.St) (Q : VK) (i : RelM X.K Hs H M) (q : EnvR X.K Hs σ ρ) (kk : ∀ v Hs' H', Grow Hs H Hs' H' → v = .bl (g (lookA kvs k).isSome) → Q v H') :
    tWe X a σ H fun y H1 => tWe X b σ H1 fun x H2 => ∃ l o, x = .ref l ∧ DGet H2 l y o ∧ Q (.bl (g o.isSome)) H2 :=
  hk.run Hs H σ _ i q fun u Hs1 H1 g1 p1 => ho.run Hs1 H1 σ _ (i.grow g1) (q.mono g1.s) fun l o Hs2 H2 g2 e1 e2 => by
    obtain ⟨vs, rfl, rel⟩ := rep_dct e2
    have hv' := dp_str p1
    subst hv'
    exact ⟨l, _, rfl, DGet.k (k := Sum.inr k) e1, kk _ Hs2 H2 (g1.trans g2) (by rw [look_some rel])⟩
theorem pd_din (hu : X.A.units + 1 < cLine) (hk : PD X a ρ M (.str k)) (ho : PO' X b ρ M (dctF f kvs)) (hm : behindInMarks .In b = false := by first | exact nobehind _ (by decide) (by decide) | rfl) : PD X (.Compare a [.In] [b] pos) ρ M (.bool (lookA kvs k).isSome) :=
  pd_of (pe_cmp (pc_din hu pe_w pe_w) hm) fun Hs H σ Q i q kk => din hk ho id Hs H σ Q i q fun v Hs' H' g e => kk v Hs' H' g (by rw [e]; exact .bl _)
theorem pd_dnin (hu : X.A.units + 1 < cLine) (hk : PD X a ρ M (.str k)) (ho : PO' X b ρ M (dctF f kvs)) (hm : behindInMarks .NotIn b = false := by first | exact nobehind _ (by decide) (by decide) | rfl) : PD X (.Compare a [.NotIn] [b] pos) ρ M (.bool (!(lookA kvs k).isSome)) :=
  pd_of (pe_cmp (pc_dnotin hu pe_w pe_w) hm) fun Hs H σ Q i q kk => din hk ho (!·) Hs H σ Q i q fun v Hs' H' g e => kk v Hs' H' g (by rw [e]; exact .bl _)
theorem ptd_din (hu : X.A.units + 1 < cLine) (hk : PD X a ρ M (.str k)) (ho : PO' X b ρ M (dctF f kvs)) (hm : behindInMarks .In b = false := by first | exact nobehind _ (by decide) (by decide) | rfl) : PTD X (.Compare a [.In] [b] pos) ρ M (lookA kvs k).isSome :=
  ptd_of (pt_cmp (pc_din hu pe_w pe_w) hm) fun Hs H σ Q i q kk => din hk ho id Hs H σ (fun x H1 => ∃ b, x = V.bl b ∧ Q b H1) i q fun v Hs' H' g e => ⟨_, e, kk Hs' H' g⟩
theorem ptd_dnin (hu : X.A.units + 1 < cLine) (hk : PD X a ρ M (.str k)) (ho : PO' X b ρ M (dctF f kvs)) (hm : behindInMarks .NotIn b = false := by first | exact nobehind _ (by decide) (by decide) | rfl) : PTD X (.Compare a [.NotIn] [b] pos) ρ M (!(lookA kvs k).isSome) :=
  ptd_of (pt_cmp (pc_dnotin hu pe_w pe_w) hm) fun Hs H σ Q i q kk => din hk ho (!·) Hs H σ (fun x H1 => ∃ b, x = V.bl b ∧ Q b H1) i q fun v Hs' H' g e => ⟨_, e, kk Hs' H' g⟩
/-! ### changes of a dict that a name holds -/
/-- x[k] = e -/
theorem ds_dput (i : Nat) {x : Str} {p' : Pos} {l : Addr} (hu : X.A.units + 1 < cLine) (hl : ρ[i]? = some (.v (.ref l)))
    (he : PX X e ρ M fun s M1 => ∃ (v : α) (kvs : List (Str × α)) (k : Str), s = .d (f v) ∧ M1 l = some (dctF f kvs) ∧ PD X b ρ M1 (.str k) ∧ kvs.length < 1000000 ∧ Ψ.nx ρ (mup M1 l (dctF f (putA kvs k v))))
    (hN : X.N[i]? = some x := by rfl) (hv : Vis X.env.scope x := by first | exact Or.inl rfl | exact Or.inr (Or.inl rfl) | exact Or.inr (Or.inr rfl)) (hd : (x == ("__debug__" : Str)) = false := by decide) (hcd : (x == ("__classdict__" : Str)) = false := by decide)
    (hs : swapsWith e (some (.Subscript (.Name x p') b p2)) pos.line X.env = pure false := by rfl) : DS X (.Assign [.Subscript (.Name x p') b p2] e pos) ρ M Ψ :=
  ⟨fun Hs H σ E r q A => PS.w (ps_dput hu (pe_var hN hv hd hcd) pe_w pe_w hs) (he.run Hs H σ _ r q fun v s Hs1 H1 M1 r1 f1 p1 ⟨v', kvs, k, e1, e2, hk, hz, h⟩ => by
    subst e1
    refine ⟨.ref l, q.getV hl, ?_⟩
    refine hk.run Hs1 H1 σ _ r1 (q.mono f1.s) fun u Hs2 H2 g2 p2 => ?_
    have hu' := dp_str p2
    subst hu'
    have r2 := r1.grow g2
    obtain ⟨m1, o, m2, m3⟩ := r2.m l _ e2
    obtain ⟨vs, rfl, rel⟩ := rep_dct m3
    have hlen : vs.length = kvs.length := Paired.length rel
    have hz' : vs.length < sizeLine := by rw [sizeLine_eq]; omega
    refine ⟨l, _, rfl, DPut.k (k := Sum.inr k) m2 hz', ?_⟩
    obtain ⟨r3, f3⟩ := r2.put (o := .dK (putK vs (Sum.inr k) v)) e2 (dct_rep (put_rel rel k (dp_mono g2.s p1.dp)))
    exact A.nx Hs2 _ _ _ _ r3 ((f1.trans g2.fr).trans f3) ((q.mono f1.s).mono g2.s) h)⟩
/-- x.pop(k), k there -/
theorem px_dpop1 (i : Nat) {x : Str} {p' : Pos} {l : Addr} {v : α} (hl : ρ[i]? = some (.v (.ref l))) (hm : M l = some (dctF f kvs)) (hk : PD X b ρ M (.str k)) (hv : lookA kvs k = some v) (h : Φ (.d (f v)) (mup M l (dctF f (dropA kvs k)))) (m : M1 X (.Name x p') "pop" apos b cpos)
    (hN : X.N[i]? = some x := by rfl) (hvs : Vis X.env.scope x := by first | exact Or.inl rfl | exact Or.inr (Or.inl rfl) | exact Or.inr (Or.inr rfl)) (hd : (x == ("__debug__" : Str)) = false := by decide) (hcd : (x == ("__classdict__" : Str)) = false := by decide) :
    PX X (.Call (.Attribute (.Name x p') "pop" apos) [b] [] cpos) ρ M Φ :=
  ⟨fun Hs H σ Q r q kk => PE.w (pe_dpop1 (pe_var hN hvs hd hcd) pe_w m) (by
    obtain ⟨m1, o, m2, m3⟩ := r.m l _ hm
    obtain ⟨vs, rfl, rel⟩ := rep_dct m3
    refine ⟨.ref l, q.getV hl, l, rfl, .inl ⟨vs, .inl m2⟩, ?_⟩
    refine hk.run Hs H σ _ r q fun u Hs2 H2 g2 p2 => ?_
    have hu' := dp_str p2
    subst hu'
    have r2 := r.grow g2
    rcases look_rel rel k with ⟨v', x, y1, y2, y3⟩ | ⟨y1, y2⟩
    · rw [hv] at y2
      cases y2
      refine ⟨vs, Sum.inr k, v', g2.h _ _ m2, rfl, y1, ?_⟩
      obtain ⟨m1', o', m2', m3'⟩ := r2.m l _ hm
      rw [g2.h _ _ m2] at m2'
      cases m2'
      have rel2 := pairs_back m3'
      obtain ⟨r3, f3⟩ := r2.put (o := .dK (dropK vs (Sum.inr k))) hm (dct_rep (drop_rel rel2 k))
      exact kk _ _ _ _ _ r3 (g2.fr.trans f3) (slv_d (dp_mono g2.s y3)) h
    · rw [hv] at y2; cases y2)⟩
/-- x.pop(k, d) -/
theorem px_dpop2 (i : Nat) {x : Str} {p' : Pos} {l : Addr} (hl : ρ[i]? = some (.v (.ref l))) (hm : M l = some (dctF f kvs)) (hk : PD X b ρ M (.str k)) (hd' : PD X c ρ M d) (h : Φ (.d (getA f kvs k d)) (mup M l (dctF f (dropA kvs k)))) (m : M2 X (.Name x p') "pop" apos b c cpos)
    (hN : X.N[i]? = some x := by rfl) (hvs : Vis X.env.scope x := by first | exact Or.inl rfl | exact Or.inr (Or.inl rfl) | exact Or.inr (Or.inr rfl)) (hd : (x == ("__debug__" : Str)) = false := by decide) (hcd : (x == ("__classdict__" : Str)) = false := by decide) :
    PX X (.Call (.Attribute (.Name x p') "pop" apos) [b, c] [] cpos) ρ M Φ :=
  ⟨fun Hs H σ Q r q kk => PE.w (pe_dpop2 (pe_var hN hvs hd hcd) pe_w pe_w m) (by
    obtain ⟨m1, o, m2, m3⟩ := r.m l _ hm
    obtain ⟨vs, rfl, rel⟩ := rep_dct m3
    refine ⟨.ref l, q.getV hl, l, rfl, .inl ⟨vs, .inl m2⟩, ?_⟩
    refine hk.run Hs H σ _ r q fun u Hs2 H2 g2 p2 => hd'.run Hs2 H2 σ _ (r.grow g2) (q.mono g2.s) fun w Hs3 H3 g3 p3 => ?_
    have hu' := dp_str p2
    subst hu'
    have gg := g2.trans g3
    have r2 := r.grow gg
    have m2x := gg.h _ _ m2
    obtain ⟨m1', o', m2', m3'⟩ := r2.m l _ hm
    rw [m2x] at m2'
    cases m2'
    have rel2 := pairs_back m3'
    refine ⟨vs, Sum.inr k, m2x, rfl, fun v hv => ?_, fun hv => ?_⟩
    · obtain ⟨r3, f3⟩ := r2.put (o := .dK (dropK vs (Sum.inr k))) hm (dct_rep (drop_rel rel2 k))
      rcases look_rel rel2 k with ⟨v', x, y1, y2, y3⟩ | ⟨y1, y2⟩
      · rw [hv] at y1
        cases y1
        refine kk _ _ _ _ _ r3 (gg.fr.trans f3) (slv_d y3) ?_
        have : getA f kvs k d = f x := by unfold getA; rw [y2]
        rw [this] at h; exact h
      · rw [hv] at y1; cases y1
    · rcases look_rel rel2 k with ⟨v', x, y1, y2, y3⟩ | ⟨y1, y2⟩
      · rw [hv] at y1; cases y1
      · have ed : dropA kvs k = kvs := by
          unfold dropA
          refine List.filter_eq_self.mpr fun kv hkv => decide_eq_true fun z => ?_
          have : ∃ u, lookA kvs k = some u := by
            clear h rel rel2 hm r r2 m3 m3' y2
            induction kvs with
            | nil => cases hkv
            | cons q l ih =>
              by_cases e : q.1 = k
              · exact ⟨_, lookA_pos e⟩
              · rw [lookA_neg e]
                rcases List.mem_cons.mp hkv with e' | e'
                · exact absurd (e' ▸ z) e
                · exact ih e'
          obtain ⟨u, hu⟩ := this
          rw [hu] at y2; cases y2
        have eg : getA f kvs k d = d := by unfold getA; rw [y2]
        rw [ed, eg] at h
        have em : mup M l (dctF f kvs) = M := by
          funext b'
          unfold mup
          split
          · rename_i z; rw [z]; exact hm.symm
          · rfl
        rw [em] at h
        exact kk _ _ _ _ _ r2 gg.fr (slv_d p3) h)⟩
end
end AB
namespace AB
open PySem PySem.Spec PyProof.Rows L2
/-! ### dicts that change no more, as data -/
section
variable {X : Cx} {M : Mem} {e a b c : Expr} {ρ : Env} {pos p p2 cpos : Pos} {xs : List Str} {ps : Book}
theorem kvI_eq (ps : Book) : kvI ps = kvS ps := rfl
/-- {} -/
theorem pd_dict0 : PD X (.Dict [] [] pos) ρ M (dDict []) := pd_of pe_dnewK fun Hs H σ Q r q k l hl => k _ _ _ (.new r.i hl) (.dct (ps := []) upd_same)
theorem PD.po (h : PD X e ρ M (dDict ps)) : PO' X e ρ M (dB ps) := ⟨fun Hs H σ Q r q k => h.run Hs H σ _ r q fun v Hs1 H1 g p => by
  obtain ⟨l, rfl, hl⟩ := dp_dct p
  exact k l _ Hs1 H1 g (g.i _ _ hl) (dct_rep kvS_rep)⟩
theorem dss_freezeD {sts : List Stmt} {Φ : Post} (i : Nat) {l : Addr} (hl : ρ[i]? = some (.v (.ref l))) (hm : M l = some (dB ps)) (h : DSs X sts (ρ.set i (.d (dDict ps))) (mdel M l) Φ) : DSs X sts ρ M Φ :=
  ⟨fun Hs H σ E r q a => by
    obtain ⟨h1, o, h2, h3⟩ := r.m l _ hm
    obtain ⟨vs, rfl, rel⟩ := rep_dct h3
    have ev := rep_kvS (vs := []) rel
    subst ev
    have hs : Same Hs (upd Hs l (.dK (kvS ps))) := same_upd h1
    have f : Fr Hs H M (upd Hs l (.dK (kvS ps))) H (mdel M l) := ⟨hs, fun b o h _ => h, fun b k1 k2 => by
      by_cases hb : b = l
      · subst hb; rw [hm]; exact .inr (by intro z; cases z)
      · rw [upd_ne hb] at k2; exact absurd k1 k2, fun b k1 k2 => by
      unfold mdel at k2
      split at k2
      · exact absurd rfl k2
      · exact absurd k1 k2, fun b h => h⟩
    have q2 : EnvR X.K (upd Hs l (.dK (kvS ps))) σ (ρ.set i (.d (dDict ps))) := by
      have e : σ = σ.set i (some (.ref l)) := by
        refine List.ext_getElem? fun j => ?_
        by_cases hj : i = j
        · subst hj
          have hlt : i < σ.length := (List.getElem?_eq_some_iff.mp (q.getV hl)).1
          rw [List.getElem?_set_self hlt]; exact q.getV hl
        · rw [List.getElem?_set_ne hj]
      rw [e]
      exact (q.mono hs).set i ⟨_, rfl, .dct upd_same⟩
    refine h.run _ H σ E ⟨fun b o e => ?_, fun b mo e => ?_⟩ q2 (a.fr f)
    · by_cases hb : b = l
      · subst hb; rw [upd_same] at e; cases e; exact h2
      · rw [upd_ne hb] at e; exact r.i b o e
    · unfold mdel at e
      split at e
      · cases e
      · rename_i hb
        obtain ⟨k1, o, k2, k3⟩ := r.m b mo e
        exact ⟨by rw [upd_ne hb]; exact k1, o, k2, k3.mono hs⟩⟩
end
end AB
namespace AB
open PySem L2
/-! ### books as functions -/
abbrev Fn := Str → Option Int
def BookOk (b : Book) : Prop := Rise (b.map (·.1))
def KeysND (b : Book) : Prop := (b.map (·.1)).Nodup
theorem rise_nodup {l : List Str} (h : Rise l) : l.Nodup := List.Pairwise.imp (fun {a b} h => ltS_ne h) h
theorem BookOk.nd {b : Book} (h : BookOk b) : KeysND b := rise_nodup h
theorem look_mem {α : Type} {b : List (Str × α)} {k : Str} {v : α} (h : lookA b k = some v) : (k, v) ∈ b := by
  induction b with
  | nil => rw [lookA_nil] at h; cases h
  | cons p b ih =>
    by_cases e : p.1 = k
    · rw [lookA_pos e] at h
      cases h
      rw [← e]; exact List.mem_cons_self
    · rw [lookA_neg e] at h
      exact List.mem_cons_of_mem _ (ih h)
theorem look_of {α : Type} {b : List (Str × α)} (hn : (b.map (·.1)).Nodup) {k : Str} {v : α} (h : (k, v) ∈ b) : lookA b k = some v := by
  induction b with
  | nil => cases h
  | cons p b ih =>
    rw [List.map_cons, List.nodup_cons] at hn
    rcases List.mem_cons.mp h with e | e
    · subst e; exact lookA_pos rfl
    · rw [lookA_neg fun z => hn.1 (by rw [z]; exact List.mem_map.mpr ⟨_, e, rfl⟩)]
      exact ih hn.2 e
theorem look_iff {b : Book} (hn : KeysND b) {k : Str} {v : Int} : lookA b k = some v ↔ (k, v) ∈ b := ⟨look_mem, look_of hn⟩
theorem look_key {α : Type} {b : List (Str × α)} {k : Str} : (lookA b k).isSome = true ↔ k ∈ b.map (·.1) := by
  constructor
  · intro h
    obtain ⟨v, hv⟩ := Option.isSome_iff_exists.mp h
    exact List.mem_map.mpr ⟨_, look_mem hv, rfl⟩
  · intro h
    obtain ⟨p, hp, e⟩ := List.mem_map.mp h
    clear h
    induction b with
    | nil => cases hp
    | cons q b ih =>
      by_cases z : q.1 = k
      · rw [lookA_pos z]; rfl
      · rw [lookA_neg z]
        rcases List.mem_cons.mp hp with e' | e'
        · exact absurd (e' ▸ e) z
        · exact ih e'
theorem look_none {α : Type} {b : List (Str × α)} {k : Str} : lookA b k = none ↔ k ∉ b.map (·.1) := by
  rw [← look_key (b := b) (k := k)]
  cases lookA b k <;> simp
theorem perm_look {b c : Book} (hn : KeysND b) (p : b.Perm c) (k : Str) : lookA b k = lookA c k := by
  have hn' : KeysND c := (p.map (Prod.fst : Str × Int → Str)).nodup_iff.mp hn
  cases h : lookA b k with
  | some v => exact (look_of hn' (p.mem_iff.mp (look_mem h))).symm
  | none =>
    cases h' : lookA c k with
    | none => rfl
    | some v => rw [look_of hn (p.mem_iff.mpr (look_mem h'))] at h; cases h
theorem book_ext : ∀ {b c : Book}, BookOk b → BookOk c → (∀ k, lookA b k = lookA c k) → b = c := by
  intro b c hb hc h
  have hk : b.map (·.1) = c.map (·.1) := rise_uniq hb hc fun k => by rw [← look_key (b := b), ← look_key (b := c), h]
  refine List.ext_getElem (by have := congrArg List.length hk; simpa using this) fun i h1 h2 => ?_
  have e1 : b[i].1 = c[i].1 := by
    have := congrArg (·[i]?) hk
    simp only [List.getElem?_map, List.getElem?_eq_getElem h1, List.getElem?_eq_getElem h2, Option.map_some] at this
    exact Option.some.inj this
  have e2 : lookA b b[i].1 = some b[i].2 := look_of hb.nd (List.getElem_mem h1)
  have e3 : lookA c c[i].1 = some c[i].2 := look_of hc.nd (List.getElem_mem h2)
  rw [h, e1, e3] at e2
  exact Prod.ext e1 (Option.some.inj e2).symm
theorem sort_ok {b : Book} (hn : KeysND b) : BookOk (sortB b) := by
  have hp := sortB_perm b
  have hn' : KeysND (sortB b) := (hp.map (Prod.fst : Str × Int → Str)).nodup_iff.mpr hn
  have hs := sortB_sorted b
  unfold BookOk Rise
  unfold KeysND at hn'
  rw [List.Nodup, List.pairwise_map] at hn'
  rw [List.pairwise_map]
  refine (hs.and hn').imp fun {p q} h => ?_
  rcases lexS_no.mp h.1 with z | z
  · exact z
  · exact absurd z.1.symm h.2
theorem sort_look {b : Book} (hn : KeysND b) (k : Str) : lookA (sortB b) k = lookA b k := (perm_look hn (sortB_perm b).symm k).symm
theorem sort_id {b : Book} (h : BookOk b) : sortB b = b := book_ext (sort_ok h.nd) h (sort_look h.nd)
/-! ### put, drop, merge -/
theorem any_key {α : Type} {b : List (Str × α)} {k : Str} : (b.any fun kv => decide (kv.1 = k)) = true ↔ k ∈ b.map (·.1) := by
  simp only [List.any_eq_true, decide_eq_true_eq, List.mem_map]
theorem map_put_look {b : Book} {k : Str} {v : Int} (j : Str) : lookA (b.map fun kv => if kv.1 = k then (kv.1, v) else kv) j = if j = k ∧ k ∈ b.map (·.1) then some v else lookA b j := by
  induction b with
  | nil => simp [lookA_nil]
  | cons p b ih =>
    rw [List.map_cons]
    by_cases e : p.1 = k
    · rw [if_pos e]
      by_cases z : p.1 = j
      · have : j = k := z.symm.trans e
        rw [lookA_pos (p := (p.1, v)) z, if_pos ⟨this, by rw [List.map_cons, e]; exact List.mem_cons_self⟩]
      · rw [lookA_neg (p := (p.1, v)) z, lookA_neg z, ih]
        have : ¬ j = k := fun y => z (e.trans y.symm)
        rw [if_neg fun h => this h.1, if_neg fun h => this h.1]
    · rw [if_neg e]
      by_cases z : p.1 = j
      · rw [lookA_pos z, lookA_pos z, if_neg fun h => e (z.trans h.1)]
      · rw [lookA_neg z, lookA_neg z, ih, List.map_cons]
        by_cases y : j = k
        · subst y
          have : ¬ j = p.1 := fun q => z q.symm
          have e2 : (j ∈ p.1 :: b.map (·.1)) ↔ j ∈ b.map (·.1) := by rw [List.mem_cons]; exact ⟨fun h => h.elim (fun q => absurd q this) id, .inr⟩
          by_cases hm : j ∈ b.map (·.1)
          · rw [if_pos ⟨rfl, hm⟩, if_pos ⟨rfl, e2.mpr hm⟩]
          · rw [if_neg fun h => hm h.2, if_neg fun h => hm (e2.mp h.2)]
        · rw [if_neg fun h => y h.1, if_neg fun h => y h.1]
theorem look_app {b c : Book} (j : Str) : lookA (b ++ c) j = (match lookA b j with | some v => some v | none => lookA c j) := by
  induction b with
  | nil => rfl
  | cons p b ih =>
    rw [List.cons_append]
    by_cases z : p.1 = j
    · rw [lookA_pos z, lookA_pos z]
    · rw [lookA_neg z, lookA_neg z, ih]
theorem put_look (b : Book) (k : Str) (v : Int) (j : Str) : lookA (putA b k v) j = if j = k then some v else lookA b j := by
  unfold putA
  by_cases h : k ∈ b.map (·.1)
  · rw [if_pos (any_key.mpr h), map_put_look]
    by_cases e : j = k
    · rw [if_pos ⟨e, h⟩, if_pos e]
    · rw [if_neg (fun z => e z.1), if_neg e]
  · rw [if_neg fun z => h (any_key.mp z), look_app]
    by_cases e : j = k
    · subst e
      rw [if_pos rfl, look_none.mpr h]
      exact lookA_pos (p := (j, v)) rfl
    · rw [if_neg e]
      cases q : lookA b j with
      | some u => rfl
      | none =>
        show lookA [(k, v)] j = none
        rw [lookA_neg (p := (k, v)) fun z => e z.symm]; rfl
theorem put_keys (b : Book) (k : Str) (v : Int) : (putA b k v).map (·.1) = if k ∈ b.map (·.1) then b.map (·.1) else b.map (·.1) ++ [k] := by
  unfold putA
  by_cases h : k ∈ b.map (·.1)
  · rw [if_pos (any_key.mpr h), if_pos h, List.map_map]
    refine List.map_congr_left fun p hp => ?_
    show (if p.1 = k then (p.1, v) else p).1 = p.1
    split <;> rfl
  · rw [if_neg fun z => h (any_key.mp z), if_neg h, List.map_append]; rfl
theorem put_nd {b : Book} (hn : KeysND b) (k : Str) (v : Int) : KeysND (putA b k v) := by
  unfold KeysND
  rw [put_keys]
  split
  · exact hn
  · rename_i h
    exact List.nodup_append.mpr ⟨hn, by simp, fun x hx y hy => by rw [List.mem_singleton.mp hy]; intro e; exact h (e ▸ hx)⟩
theorem put_len (b : Book) (k : Str) (v : Int) : (putA b k v).length ≤ b.length + 1 := by
  have := congrArg List.length (put_keys b k v)
  rw [List.length_map] at this
  rw [this]
  split
  · rw [List.length_map]; omega
  · rw [List.length_append, List.length_map]; simp
theorem drop_look (b : Book) (k j : Str) : lookA (dropA b k) j = if j = k then none else lookA b j := by
  unfold dropA
  induction b with
  | nil => simp [lookA_nil]
  | cons p b ih =>
    by_cases e : p.1 = k
    · rw [List.filter_cons, if_neg (by simp [e]), ih]
      by_cases z : j = k
      · rw [if_pos z, if_pos z]
      · rw [if_neg z, if_neg z, lookA_neg fun q => z (q.symm.trans e)]
    · rw [List.filter_cons, if_pos (decide_eq_true (show p.1 ≠ k from e))]
      by_cases q : p.1 = j
      · rw [lookA_pos q, lookA_pos q, if_neg fun z => e (q.trans z)]
      · rw [lookA_neg q, lookA_neg q, ih]
theorem drop_nd {b : Book} (hn : KeysND b) (k : Str) : KeysND (dropA b k) := List.Nodup.sublist (List.Sublist.map _ List.filter_sublist) hn
theorem drop_len (b : Book) (k : Str) : (dropA b k).length ≤ b.length := List.length_filter_le _ _
theorem merge_id' : ∀ {c b : Book}, KeysND (b ++ c) → c.foldl (fun acc kv => putA acc kv.1 kv.2) b = b ++ c
  | [], b, _ => by simp
  | p :: c, b, h => by
    show List.foldl _ (putA b p.1 p.2) c = _
    have hp : p.1 ∉ b.map (·.1) := by
      unfold KeysND at h
      rw [List.map_append, List.map_cons] at h
      intro z
      exact (List.nodup_append.mp h).2.2 _ z _ List.mem_cons_self rfl
    have e : putA b p.1 p.2 = b ++ [p] := by
      unfold putA
      rw [if_neg fun z => hp (any_key.mp z)]
    rw [e, merge_id' (c := c) (b := b ++ [p]) (by rw [List.append_assoc]; exact h), List.append_assoc]; rfl
theorem merge_id {b : Book} (h : KeysND b) : mergeA b = b := merge_id' (b := []) h
/-! ### changes done -/
def doA (kv : Book) : Chg → Book
  | .put k w => putA kv k w
  | .add k w => putA kv k (((lookA kv k).getD 0 + w) % 1000)
  | .keep k w => putA kv k ((lookA kv k).getD w)
  | .drop k => dropA kv k
  | .move a b => match lookA kv a with
    | some v => if (lookA kv b).isSome then kv else putA (dropA kv a) b v
    | none => kv
def stepF (f : Fn) : Chg → Fn
  | .put k w => fun j => if j = k then some w else f j
  | .add k w => fun j => if j = k then some (((f k).getD 0 + w) % 1000) else f j
  | .keep k w => fun j => if j = k then some ((f k).getD w) else f j
  | .drop k => fun j => if j = k then none else f j
  | .move a b => match f a with
    | some v => if (f b).isSome then f else fun j => if j = b then some v else if j = a then none else f j
    | none => f
theorem doA_move (kv : Book) (a b : Str) : doA kv (.move a b) = match lookA kv a with
    | some v => if (lookA kv b).isSome then kv else putA (dropA kv a) b v
    | none => kv := rfl
theorem stepF_move (f : Fn) (a b : Str) : stepF f (.move a b) = match f a with
    | some v => if (f b).isSome then f else fun j => if j = b then some v else if j = a then none else f j
    | none => f := rfl
def runF (f : Fn) (cs : List Chg) : Fn := cs.foldl stepF f
theorem doA_look (kv : Book) (c : Chg) : lookA (doA kv c) = stepF (lookA kv) c := by
  cases c with
  | put k w => funext j; exact put_look ..
  | add k w => funext j; exact put_look ..
  | keep k w => funext j; exact put_look ..
  | drop k => funext j; exact drop_look ..
  | move a b =>
    rw [doA_move, stepF_move]
    cases h : lookA kv a with
    | none => rfl
    | some v =>
      show lookA (if (lookA kv b).isSome then kv else putA (dropA kv a) b v) = if (lookA kv b).isSome then lookA kv else fun j => if j = b then some v else if j = a then none else lookA kv j
      split
      · rfl
      · funext j; rw [put_look, drop_look]
theorem doA_nd {kv : Book} (h : KeysND kv) (c : Chg) : KeysND (doA kv c) := by
  cases c with
  | put k w => exact put_nd h ..
  | add k w => exact put_nd h ..
  | keep k w => exact put_nd h ..
  | drop k => exact drop_nd h ..
  | move a b =>
    rw [doA_move]
    split
    · split
      · exact h
      · exact put_nd (drop_nd h _) ..
    · exact h
theorem doA_len (kv : Book) (c : Chg) : (doA kv c).length ≤ kv.length + 1 := by
  cases c with
  | put k w => exact put_len ..
  | add k w => exact put_len ..
  | keep k w => exact put_len ..
  | drop k => exact Nat.le_succ_of_le (drop_len ..)
  | move a b =>
    rw [doA_move]
    split
    · split
      · omega
      · refine Nat.le_trans (put_len ..) ?_
        have := drop_len kv a
        omega
    · omega
def doneA (b : Book) (cs : List Chg) : Book := sortB (cs.foldl doA (mergeA b))
theorem run_look : ∀ (cs : List Chg) (kv : Book), lookA (cs.foldl doA kv) = runF (lookA kv) cs
  | [], _ => rfl
  | c :: cs, kv => by
    show lookA (cs.foldl doA (doA kv c)) = runF (stepF (lookA kv) c) cs
    rw [run_look cs, doA_look]
theorem run_nd : ∀ (cs : List Chg) {kv : Book}, KeysND kv → KeysND (cs.foldl doA kv)
  | [], _, h => h
  | c :: cs, _, h => run_nd cs (doA_nd h c)
theorem run_len : ∀ (cs : List Chg) (kv : Book), (cs.foldl doA kv).length ≤ kv.length + cs.length
  | [], _ => by simp
  | c :: cs, kv => by
    have h1 := run_len cs (doA kv c)
    have h2 := doA_len kv c
    show (cs.foldl doA (doA kv c)).length ≤ _
    rw [List.length_cons]; omega
theorem done_ok {b : Book} (h : KeysND b) (cs : List Chg) : BookOk (doneA b cs) := by
  unfold doneA
  rw [merge_id h]
  exact sort_ok (run_nd cs h)
theorem done_look {b : Book} (h : KeysND b) (cs : List Chg) : lookA (doneA b cs) = runF (lookA b) cs := by
  unfold doneA
  rw [merge_id h]
  funext j
  rw [sort_look (run_nd cs h), run_look]
theorem done_len {b : Book} (h : KeysND b) (cs : List Chg) : (doneA b cs).length ≤ b.length + cs.length := by
  unfold doneA
  rw [merge_id h, sortB_length]
  exact run_len cs b
/-! ### from one book to another -/
/-- as the program has it: -1 for what is not there -/
def btwS (b c : Book) (k : Str) : Option Chg := match lookA c k with
  | none => some (.drop k)
  | some w => if (lookA b k).getD (-1) = w then none else some (.put k w)
def btwA (b c : Book) : List Chg := (keySet (b.map (·.1) ++ c.map (·.1))).filterMap (btwS b c)
theorem fm_take {α β : Type} {f : α → Option β} {l : List α} {i : Nat} {x : α} (h : l[i]? = some x) : (l.take (i + 1)).filterMap f = (l.take i).filterMap f ++ (match f x with | some y => [y] | none => []) := by
  rw [List.take_succ, h, List.filterMap_append]
  congr 1
  show [x].filterMap f = _
  rw [List.filterMap_cons]
  cases f x <;> rfl
end AB
namespace AB
open PySem L2
def FBookOf : List D → D → Prop := fun ds d => ∃ ps : Book, ds = [dDict ps] ∧ d = dBook (sortB ps)
def FDo : MSp := fun ss M Φ => ∃ (l : Addr) (ps : Book) (c : Chg), ss = [.v (.ref l), .d (dChg c)] ∧ M l = some (dB ps) ∧ ps.length < 100000 ∧ Φ (.d .none) (mup M l (dB (doA ps c)))
def FDone : List D → D → Prop := fun ds d => ∃ (b : Book) (cs : List Chg), ds = [dBook b, dRow cs] ∧ b.length ≤ 1000 ∧ cs.length ≤ 1000 ∧ d = dBook (doneA b cs)
def FBtw : List D → D → Prop := fun ds d => ∃ (b c : Book), ds = [dBook b, dBook c] ∧ b.length ≤ 20 ∧ c.length ≤ 20 ∧ d = dRow (btwA (mergeA b) (mergeA c))
def FBack : List D → D → Prop := fun ds d => ∃ (b : Book) (cs : List Chg), ds = [dBook b, dRow cs] ∧ KeysND b ∧ b.length + cs.length ≤ 20 ∧ d = dRow (btwA (doneA b cs) b)
theorem merge_len' : ∀ (c b : Book), (c.foldl (fun acc kv => putA acc kv.1 kv.2) b).length ≤ b.length + c.length
  | [], b => by simp
  | p :: c, b => by
    have h1 := merge_len' c (putA b p.1 p.2)
    have h2 := put_len b p.1 p.2
    show (List.foldl _ (putA b p.1 p.2) c).length ≤ _
    rw [List.length_cons]; omega
theorem merge_len (b : Book) : (mergeA b).length ≤ b.length := by
  have h := merge_len' b []
  rw [List.length_nil, Nat.zero_add] at h
  exact h
theorem mup_id {M : Mem} {l : Addr} {mo : MO} (h : M l = some mo) : mup M l mo = M := by
  funext b'
  unfold mup
  split
  · rename_i z; rw [z]; exact h.symm
  · rfl
theorem cut2 (x y z : D) : cutD [x, y, z] none (some 2) = [x, y] := rfl
theorem cut2' (x y : D) : cutD [x, y] none (some 2) = [x, y] := rfl
theorem getA_int (kv : Book) (k : Str) (i : Int) : getA PyData.int kv k (.int i) = .int ((lookA kv k).getD i) := by
  unfold getA
  cases lookA kv k <;> rfl
end AB
namespace AB
open PySem L2
/-! ### what the laws draw -/
def abcdK : List Str := [keyN 0, keyN 1, keyN 2, keyN 3]
def InW (w : Int) : Prop := 0 ≤ w ∧ w < 1000
/-- keys of a set S -/
def ChgIn (S : List Str) : Chg → Prop
  | .put k w => k ∈ S ∧ InW w
  | .add k w => k ∈ S ∧ InW w
  | .keep k w => k ∈ S ∧ InW w
  | .drop k => k ∈ S
  | .move a b => a ∈ S ∧ b ∈ S
def FnIn (S : List Str) (f : Fn) : Prop := ∀ k v, f k = some v → k ∈ S ∧ InW v
structure BookIn (S : List Str) (b : Book) : Prop where
  ok : BookOk b
  fn : FnIn S (lookA b)
theorem BookIn.nd {S : List Str} {b : Book} (h : BookIn S b) : KeysND b := h.ok.nd
theorem BookIn.mem {S : List Str} {b : Book} (h : BookIn S b) {p : Str × Int} (hp : p ∈ b) : p.1 ∈ S ∧ InW p.2 := h.fn p.1 p.2 (look_of h.nd hp)
theorem BookIn.sub {S : List Str} {b : Book} (h : BookIn S b) : ∀ k ∈ b.map (·.1), k ∈ S := fun k hk => by
  obtain ⟨p, hp, rfl⟩ := List.mem_map.mp hk
  exact (h.mem hp).1
theorem nodup_le : ∀ {l m : List Str}, l.Nodup → (∀ x ∈ l, x ∈ m) → l.length ≤ m.length
  | [], m, _, _ => Nat.zero_le _
  | x :: l, m, hn, h => by
    obtain ⟨n1, n2⟩ := List.nodup_cons.mp hn
    have := nodup_le (l := l) (m := m.erase x) n2 fun y hy => (List.mem_erase_of_ne fun e => n1 (by rw [← e]; exact hy)).mpr (h y (List.mem_cons_of_mem _ hy))
    rw [List.length_erase_of_mem (h x List.mem_cons_self)] at this
    have hp : 0 < m.length := List.length_pos_of_mem (h x List.mem_cons_self)
    rw [List.length_cons]; omega
theorem BookIn.len {S : List Str} {b : Book} (h : BookIn S b) : b.length ≤ S.length := by
  have := nodup_le h.nd h.sub
  rwa [List.length_map] at this
theorem step_in {S : List Str} {f : Fn} {c : Chg} (hf : FnIn S f) (hc : ChgIn S c) : FnIn S (stepF f c) := by
  intro j v hj
  cases c with
  | put k w =>
    unfold stepF at hj
    simp only at hj
    split at hj
    · rename_i e; cases hj; rw [e]; exact hc
    · exact hf _ _ hj
  | add k w =>
    unfold stepF at hj
    simp only at hj
    split at hj
    · rename_i e; cases hj; rw [e]; exact ⟨hc.1, by unfold InW; omega⟩
    · exact hf _ _ hj
  | keep k w =>
    unfold stepF at hj
    simp only at hj
    split at hj
    · rename_i e
      cases hj
      rw [e]
      refine ⟨hc.1, ?_⟩
      cases q : f k with
      | none => exact hc.2
      | some u => exact (hf k u q).2
    · exact hf _ _ hj
  | drop k =>
    unfold stepF at hj
    simp only at hj
    split at hj
    · cases hj
    · exact hf _ _ hj
  | move a b =>
    rw [stepF_move] at hj
    cases q : f a with
    | none => rw [q] at hj; exact hf _ _ hj
    | some u =>
      rw [q] at hj
      simp only at hj
      split at hj
      · exact hf _ _ hj
      · dsimp only at hj
        split at hj
        · rename_i e; cases hj; rw [e]; exact ⟨hc.2, (hf a _ q).2⟩
        · split at hj
          · cases hj
          · exact hf _ _ hj
theorem run_in {S : List Str} : ∀ {cs : List Chg} {f : Fn}, FnIn S f → (∀ c ∈ cs, ChgIn S c) → FnIn S (runF f cs)
  | [], _, hf, _ => hf
  | c :: cs, f, hf, h => run_in (cs := cs) (step_in hf (h c List.mem_cons_self)) fun c' hc' => h c' (List.mem_cons_of_mem _ hc')
theorem done_in {S : List Str} {b : Book} {cs : List Chg} (hb : BookIn S b) (hc : ∀ c ∈ cs, ChgIn S c) : BookIn S (doneA b cs) :=
  ⟨done_ok hb.nd cs, by rw [done_look hb.nd]; exact run_in hb.fn hc⟩
/-! the law's draws are such -/
theorem keyN_lt {i j : Nat} (h : i < j) (hj : j < 1000) : ltS (keyN i) (keyN j) = true := by
  unfold ltS keyN
  refine decide_eq_true ?_
  show ([97 + (i : Int).toNat] : List Nat) < [97 + (j : Int).toNat]
  rw [Int.toNat_natCast, Int.toNat_natCast]
  exact List.Lex.rel (by omega)
theorem abcd_rise : Rise abcdK := by
  have e : abcdK = (List.range 4).map fun i => keyN (i : Nat) := rfl
  rw [e]
  unfold Rise
  rw [List.pairwise_map]
  refine List.Pairwise.imp_of_mem ?_ List.pairwise_lt_range
  intro i j _ hj h
  rw [List.mem_range] at hj
  exact keyN_lt h (by omega)
theorem keyN_in {i : Int} (h0 : 0 ≤ i) (h1 : i < 4) : keyN i ∈ abcdK := by
  rcases int4 h0 h1 with rfl | rfl | rfl | rfl <;> simp [abcdK]
theorem book_in (n : Int) : BookIn abcdK (lawBook n) := by
  have hmem : ∀ p ∈ lawBook n, p.1 ∈ abcdK ∧ InW p.2 := fun p hp => by
    obtain ⟨k, hk, e⟩ := List.mem_filterMap.mp hp
    rw [List.mem_range] at hk
    unfold bookAt at e
    split at e
    · cases e
      refine ⟨keyN_in (by omega) (by omega), ?_⟩
      unfold InW
      dsimp only
      split
      · omega
      · omega
    · cases e
  have hok : BookOk (lawBook n) := by
    unfold BookOk Rise lawBook
    rw [List.pairwise_map]
    have p4 : (List.range 4).Pairwise fun i j => i < j ∧ j < 4 := List.Pairwise.imp_of_mem (fun {i j} _ hj h => ⟨h, List.mem_range.mp hj⟩) List.pairwise_lt_range
    refine p4.filterMap (bookAt n) fun i j h p hp q hq => ?_
    unfold bookAt at hp hq
    split at hp
    · split at hq
      · cases hp; cases hq
        exact keyN_lt h.1 (by omega)
      · cases hq
    · cases hp
  exact ⟨hok, fun k v h => hmem (k, v) (look_mem h)⟩
theorem change_in (n many : Int) (h0 : 0 ≤ n) (h1 : 1 ≤ many) (h2 : many ≤ 4) : ChgIn abcdK (lawChange n many) := by
  have pm : (0 : Int) < many := by omega
  have k : ∀ x : Int, keyN (x % many) ∈ abcdK := fun x => keyN_in (Int.emod_nonneg _ (by omega)) (by have := Int.emod_lt_of_pos x pm; omega)
  have w : InW (n / 512 % wsel (n / 16 % 4)) := by
    have p := wsel_pos (n / 16 % 4)
    have q := wsel_le (n / 16 % 4)
    have := Int.emod_lt_of_pos (n / 512) p
    exact ⟨Int.emod_nonneg _ (by omega), by omega⟩
  unfold lawChange
  split
  · exact ⟨k _, k _⟩
  · split
    · exact k _
    · split
      · exact ⟨k _, w⟩
      · split
        · exact ⟨k _, w⟩
        · exact ⟨k _, w⟩
theorem row_in (n most : Int) (h0 : 0 ≤ n) : ∀ c ∈ lawRow n most, ChgIn abcdK c := fun c hc => by
  obtain ⟨k, hk, rfl⟩ := List.mem_map.mp hc
  have := drawn_b n (k : Nat)
  exact change_in _ _ (by omega) (by omega) (by omega)
theorem row_len (n most : Int) (h : 0 ≤ most) : ((lawRow n most).length : Int) ≤ most := by
  unfold lawRow
  rw [List.length_map, List.length_range]
  have z1 : 0 ≤ n / 4 % (most + 1) := Int.emod_nonneg _ (by omega)
  have z2 := Int.emod_lt_of_pos (n / 4) (show 0 < most + 1 by omega)
  omega
theorem book_len (n : Int) : (lawBook n).length ≤ 4 := (book_in n).len
/-! ### as data -/
def KeyOk (k : Str) : Prop := PyData.strOk k = true ∧ k.length ≤ 100
theorem keyOk_abcd : ∀ k ∈ abcdK, KeyOk k := fun k hk => by
  simp only [abcdK, List.mem_cons, List.not_mem_nil, or_false] at hk
  rcases hk with rfl | rfl | rfl | rfl <;> exact ⟨by decide +kernel, by decide +kernel⟩
def SOk (S : List Str) : Prop := ∀ k ∈ S, KeyOk k
theorem ok_str {n : Nat} {k : Str} (h : KeyOk k) : okD n (.str k) := okD_str' h.1 (by have := h.2; omega)
theorem ok_word {n : Nat} {w : Str} (h : (PyData.strOk w && decide (w.length ≤ 100)) = true) : okD n (.str w) := by
  rw [Bool.and_eq_true] at h
  exact ok_str ⟨h.1, of_decide_eq_true h.2⟩
theorem ok_pair {p : Str × Int} (h : KeyOk p.1) : okD 1 (dPair p) := okD_tup (by simp) fun d hd => by
  simp only [List.mem_cons, List.not_mem_nil, or_false] at hd
  rcases hd with rfl | rfl
  · exact ok_str h
  · exact okD_int
theorem ok_book {S : List Str} {b : Book} (hS : SOk S) (h : BookIn S b) (hl : b.length ≤ 1000) : okD 2 (dBook b) := okD_tup (by rw [List.length_map]; exact hl) fun d hd => by
  obtain ⟨p, hp, rfl⟩ := List.mem_map.mp hd
  exact ok_pair (hS _ (h.mem hp).1)
theorem ok_chg {S : List Str} {c : Chg} (hS : SOk S) (h : ChgIn S c) : okD 1 (dChg c) := by
  cases c with
  | put k w =>
    refine okD_tup (n := 0) (by simp) fun d hd => ?_
    · simp only [List.mem_cons, List.not_mem_nil, or_false] at hd
      rcases hd with rfl | rfl | rfl
      · exact ok_word (by decide +kernel)
      · exact ok_str (hS _ h.1)
      · exact okD_int
  | add k w =>
    refine okD_tup (n := 0) (by simp) fun d hd => ?_
    · simp only [List.mem_cons, List.not_mem_nil, or_false] at hd
      rcases hd with rfl | rfl | rfl
      · exact ok_word (by decide +kernel)
      · exact ok_str (hS _ h.1)
      · exact okD_int
  | keep k w =>
    refine okD_tup (n := 0) (by simp) fun d hd => ?_
    · simp only [List.mem_cons, List.not_mem_nil, or_false] at hd
      rcases hd with rfl | rfl | rfl
      · exact ok_word (by decide +kernel)
      · exact ok_str (hS _ h.1)
      · exact okD_int
  | drop k =>
    refine okD_tup (n := 0) (by simp) fun d hd => ?_
    · simp only [List.mem_cons, List.not_mem_nil, or_false] at hd
      rcases hd with rfl | rfl
      · exact ok_word (by decide +kernel)
      · exact ok_str (hS _ h)
  | move a b =>
    refine okD_tup (n := 0) (by simp) fun d hd => ?_
    · simp only [List.mem_cons, List.not_mem_nil, or_false] at hd
      rcases hd with rfl | rfl | rfl
      · exact ok_word (by decide +kernel)
      · exact ok_str (hS _ h.1)
      · exact ok_str (hS _ h.2)
theorem ok_row {S : List Str} {r : List Chg} (hS : SOk S) (h : ∀ c ∈ r, ChgIn S c) (hl : r.length ≤ 1000) : okD 2 (dRow r) := okD_tup (by rw [List.length_map]; exact hl) fun d hd => by
  obtain ⟨c, hc, rfl⟩ := List.mem_map.mp hd
  exact ok_chg hS (h c hc)
/-! ### changes as the law does them -/
def lawDo (b : Book) : Chg → Book
  | .put k w => sortB (dropA b k ++ [(k, w)])
  | .add k w => sortB (dropA b k ++ [(k, match lookA b k with | some v => (v + w) % 1000 | none => w)])
  | .keep k w => sortB (dropA b k ++ [(k, (lookA b k).getD w)])
  | .drop k => dropA b k
  | .move x y => match lookA b x with
    | some v => if y ∈ b.map (·.1) then b else sortB (dropA b x ++ [(y, v)])
    | none => b
theorem lawDo_move (b : Book) (x y : Str) : lawDo b (.move x y) = match lookA b x with
    | some v => if y ∈ b.map (·.1) then b else sortB (dropA b x ++ [(y, v)])
    | none => b := rfl
theorem drop_keys (b : Book) (k : Str) : k ∉ (dropA b k).map (·.1) := by
  have := drop_look b k k
  rw [if_pos rfl] at this
  exact look_none.mp this
theorem app_nd {b : Book} (h : KeysND b) {k : Str} (hk : k ∉ b.map (·.1)) (v : Int) : KeysND (b ++ [(k, v)]) := by
  unfold KeysND
  rw [List.map_append]
  exact List.nodup_append.mpr ⟨h, by simp, fun x hx y hy => by
    have : y = k := by simpa using hy
    rw [this]; intro e; exact hk (e ▸ hx)⟩
theorem app_look (b : Book) (k : Str) (v : Int) (hk : k ∉ b.map (·.1)) (j : Str) : lookA (b ++ [(k, v)]) j = if j = k then some v else lookA b j := by
  rw [look_app]
  by_cases e : j = k
  · subst e
    rw [if_pos rfl, look_none.mpr hk]
    exact lookA_pos (p := (j, v)) rfl
  · rw [if_neg e]
    cases q : lookA b j with
    | some u => rfl
    | none =>
      show lookA [(k, v)] j = none
      rw [lookA_neg (p := (k, v)) fun z => e z.symm]; rfl
theorem lawDo_ok {S : List Str} {b : Book} {c : Chg} (hb : BookOk b) (hc : ChgIn S c) : BookOk (lawDo b c) ∧ lookA (lawDo b c) = stepF (lookA b) c := by
  have put : ∀ k v, BookOk (sortB (dropA b k ++ [(k, v)])) ∧ ∀ j, lookA (sortB (dropA b k ++ [(k, v)])) j = if j = k then some v else lookA b j := fun k v => by
    have nd := app_nd (drop_nd hb.nd k) (drop_keys b k) v
    refine ⟨sort_ok nd, fun j => ?_⟩
    rw [sort_look nd, app_look _ _ _ (drop_keys b k), drop_look]
    by_cases e : j = k
    · rw [if_pos e, if_pos e]
    · rw [if_neg e, if_neg e, if_neg e]
  cases c with
  | put k w => exact ⟨(put k _).1, funext (put k _).2⟩
  | add k w =>
    refine ⟨(put k _).1, ?_⟩
    have : (match lookA b k with | some v => (v + w) % 1000 | none => w) = ((lookA b k).getD 0 + w) % 1000 := by
      cases lookA b k with
      | some v => rfl
      | none =>
        have := hc.2
        unfold InW at this
        show w = (0 + w) % 1000
        omega
    show lookA (sortB (dropA b k ++ [(k, match lookA b k with | some v => (v + w) % 1000 | none => w)])) = _
    rw [this]
    exact funext (put k _).2
  | keep k w => exact ⟨(put k _).1, funext (put k _).2⟩
  | drop k =>
    refine ⟨?_, funext fun j => drop_look b k j⟩
    exact List.Pairwise.sublist (List.Sublist.map _ List.filter_sublist) hb
  | move x y =>
    rw [lawDo_move, stepF_move]
    cases q : lookA b x with
    | none => exact ⟨hb, rfl⟩
    | some v =>
      show BookOk (if y ∈ b.map (·.1) then b else sortB (dropA b x ++ [(y, v)])) ∧ lookA (if y ∈ b.map (·.1) then b else sortB (dropA b x ++ [(y, v)])) = if (lookA b y).isSome then lookA b else fun j => if j = y then some v else if j = x then none else lookA b j
      by_cases hy : y ∈ b.map (·.1)
      · rw [if_pos hy, if_pos (look_key.mpr hy)]; exact ⟨hb, rfl⟩
      · rw [if_neg hy, if_neg fun z => hy (look_key.mp z)]
        have hy' : y ∉ (dropA b x).map (·.1) := fun z => hy ((List.Sublist.map _ List.filter_sublist).subset z)
        have nd := app_nd (drop_nd hb.nd x) hy' v
        refine ⟨sort_ok nd, funext fun j => ?_⟩
        rw [sort_look nd, app_look _ _ _ hy', drop_look]
theorem lawDo_len {S : List Str} {b : Book} {c : Chg} (hb : BookIn S b) (hc : ChgIn S c) : BookIn S (lawDo b c) := by
  obtain ⟨h1, h2⟩ := lawDo_ok hb.ok hc
  exact ⟨h1, by rw [h2]; exact step_in hb.fn hc⟩
def lawDone (b : Book) (cs : List Chg) : Book := cs.foldl lawDo b
theorem lawDone_in {S : List Str} : ∀ {cs : List Chg} {b : Book}, BookIn S b → (∀ c ∈ cs, ChgIn S c) → BookIn S (lawDone b cs) ∧ lookA (lawDone b cs) = runF (lookA b) cs
  | [], b, hb, _ => ⟨hb, rfl⟩
  | c :: cs, b, hb, h => by
    have h1 := lawDo_len hb (h c List.mem_cons_self)
    have h2 := (lawDo_ok hb.ok (h c List.mem_cons_self)).2
    obtain ⟨h3, h4⟩ := lawDone_in (cs := cs) h1 fun c' hc' => h c' (List.mem_cons_of_mem _ hc')
    refine ⟨h3, h4.trans ?_⟩
    rw [h2]; rfl
theorem lawDone_eq {S : List Str} {cs : List Chg} {b : Book} (hb : BookIn S b) (h : ∀ c ∈ cs, ChgIn S c) : lawDone b cs = doneA b cs := by
  obtain ⟨h1, h2⟩ := lawDone_in hb h
  exact book_ext h1.ok (done_ok hb.nd cs) fun k => by rw [h2, done_look hb.nd]
/-! ### from one book to another, as the law goes -/
def lawBtwK (b c : Book) (k : Str) : List Chg :=
  (match lookA c k with | some w => if lookA b k = some w then [] else [.put k w] | none => []) ++ (if (lookA b k).isSome && !(lookA c k).isSome then [.drop k] else [])
def lawBtw (b c : Book) : List Chg := abcdK.flatMap (lawBtwK b c)
theorem keySet_filter {S xs : List Str} (hS : Rise S) (h : ∀ x ∈ xs, x ∈ S) : keySet xs = S.filter fun k => decide (k ∈ xs) :=
  rise_uniq (keySet_rise xs) (List.Pairwise.sublist List.filter_sublist hS) fun k => by
    rw [keySet_mem, List.mem_filter, decide_eq_true_eq]
    exact ⟨fun hk => ⟨h k hk, hk⟩, fun hk => hk.2⟩
theorem flat_opt {α β : Type} {p : α → Bool} {f : α → Option β} {g : α → List β} : ∀ {l : List α}, (∀ x ∈ l, g x = if p x = true then (f x).toList else []) → (l.filter p).filterMap f = l.flatMap g
  | [], _ => rfl
  | x :: l, h => by
    rw [List.flatMap_cons, h x List.mem_cons_self, List.filter_cons, ← flat_opt fun y hy => h y (List.mem_cons_of_mem _ hy)]
    cases p x with
    | false => simp
    | true =>
      simp only [if_true, List.filterMap_cons]
      cases f x <;> rfl
theorem btw_eq {b c : Book} (hb : BookIn abcdK b) (hc : BookIn abcdK c) : btwA b c = lawBtw b c := by
  unfold btwA lawBtw
  rw [keySet_filter abcd_rise fun x hx => (List.mem_append.mp hx).elim (hb.sub x) (hc.sub x)]
  refine flat_opt fun k hk => ?_
  have m1 := look_key (b := b) (k := k)
  have m2 := look_key (b := c) (k := k)
  cases qb : lookA b k with
  | none =>
    have n1 : k ∉ b.map (·.1) := look_none.mp qb
    cases qc : lookA c k with
    | none =>
      have n2 : k ∉ c.map (·.1) := look_none.mp qc
      have hp : decide (k ∈ b.map (·.1) ++ c.map (·.1)) = false := decide_eq_false fun z => (List.mem_append.mp z).elim n1 n2
      unfold lawBtwK
      rw [hp, qb, qc]; rfl
    | some w =>
      have i2 : k ∈ c.map (·.1) := m2.mp (by rw [qc]; rfl)
      have hp : decide (k ∈ b.map (·.1) ++ c.map (·.1)) = true := decide_eq_true (List.mem_append.mpr (.inr i2))
      have hw := (hc.fn k w qc).2
      unfold InW at hw
      have : ¬ ((none : Option Int).getD (-1) = w) := by show ¬ (-1 = w); omega
      unfold lawBtwK btwS
      rw [hp, qb, qc]
      show _ = (if (none : Option Int).getD (-1) = w then none else some (Chg.put k w)).toList
      rw [if_neg this]
      rfl
  | some v =>
    have i1 : k ∈ b.map (·.1) := m1.mp (by rw [qb]; rfl)
    have hp : decide (k ∈ b.map (·.1) ++ c.map (·.1)) = true := decide_eq_true (List.mem_append.mpr (.inl i1))
    unfold lawBtwK btwS
    rw [hp, qb]
    cases qc : lookA c k with
    | none => rfl
    | some w =>
      show (if some v = some w then [] else [Chg.put k w]) ++ [] = (if v = w then none else some (Chg.put k w)).toList
      by_cases e : v = w
      · rw [if_pos e, if_pos (by rw [e])]; rfl
      · rw [if_neg e, if_neg fun z => e (Option.some.inj z)]; rfl
theorem lawBtw_in {b c : Book} (hb : BookIn abcdK b) (hc : BookIn abcdK c) : ∀ x ∈ lawBtw b c, ChgIn abcdK x := fun x hx => by
  obtain ⟨k, hk, h⟩ := List.mem_flatMap.mp hx
  unfold lawBtwK at h
  rcases List.mem_append.mp h with h | h
  · cases qc : lookA c k with
    | none => rw [qc] at h; cases h
    | some w =>
      rw [qc] at h
      simp only at h
      split at h
      · cases h
      · rw [List.mem_singleton.mp h]; exact ⟨hk, (hc.fn k w qc).2⟩
  · split at h
    · rw [List.mem_singleton.mp h]; exact hk
    · cases h
theorem lawBtwK_len (b c : Book) (k : Str) : (lawBtwK b c k).length ≤ 2 := by
  unfold lawBtwK
  rw [List.length_append]
  have h1 : (match lookA c k with | some w => if lookA b k = some w then ([] : List Chg) else [.put k w] | none => []).length ≤ 1 := by
    cases lookA c k with
    | none => simp
    | some w => simp only; split <;> simp
  have h2 : (if (lookA b k).isSome && !(lookA c k).isSome then [Chg.drop k] else []).length ≤ 1 := by split <;> simp
  omega
theorem lawBtw_len (b c : Book) : (lawBtw b c).length ≤ 8 := by
  have h := lawBtwK_len b c
  unfold lawBtw abcdK
  simp only [List.flatMap_cons, List.flatMap_nil, List.length_append, List.length_nil]
  have h0 := h (keyN 0)
  have h1 := h (keyN 1)
  have h2 := h (keyN 2)
  have h3 := h (keyN 3)
  omega
def FLawDo : List D → D → Prop := fun ds d => ∃ (b : Book) (c : Chg), ds = [dBook b, dChg c] ∧ KeysND b ∧ b.length ≤ 1000 ∧ d = dBook (lawDo b c)
def FLawDone : List D → D → Prop := fun ds d => ∃ (S : List Str) (b : Book) (cs : List Chg), ds = [dBook b, dRow cs] ∧ BookIn S b ∧ S.length ≤ 1000 ∧ (∀ c ∈ cs, ChgIn S c) ∧ d = dBook (lawDone b cs)
def FLawBtw : List D → D → Prop := fun ds d => ∃ (b c : Book), ds = [dBook b, dBook c] ∧ KeysND b ∧ KeysND c ∧ d = dRow (lawBtw b c)
/-! ### filters of books, as data -/
def bookF (g : Str × Int → Option D) : D → Option D
  | .tuple [.str k, .int w] => g (k, w)
  | _ => none
theorem fm_book (g : Str × Int → Option D) (b : Book) : (b.map dPair).filterMap (bookF g) = b.filterMap g := by
  rw [List.filterMap_map]; rfl
def oldD (o : Option Int) : D := match o with | some v => .int v | none => .none
theorem getA_old (kv : Book) (k : Str) : getA PyData.int kv k .none = oldD (lookA kv k) := by
  unfold getA oldD
  cases lookA kv k <;> rfl
def wordC : Chg → Str
  | .put _ _ => "put" | .add _ _ => "add" | .keep _ _ => "keep" | .drop _ => "drop" | .move _ _ => "move"
def keyC : Chg → Str
  | .put k _ => k | .add k _ => k | .keep k _ => k | .drop k => k | .move k _ => k
def tailC : Chg → List D
  | .put _ w => [.int w] | .add _ w => [.int w] | .keep _ w => [.int w] | .drop _ => [] | .move _ b => [.str b]
theorem dChg_eq (c : Chg) : dChg c = .tuple (.str (wordC c) :: .str (keyC c) :: tailC c) := by cases c <;> rfl
theorem drop_fm (b : Book) (k : Str) : (b.filterMap fun p => if !decide (p.1 = k) then some (dPair p) else none) = (dropA b k).map dPair := by
  unfold dropA
  induction b with
  | nil => rfl
  | cons p b ih =>
    by_cases e : p.1 = k
    · rw [List.filterMap_cons, List.filter_cons, if_neg (by simp [e]), if_neg (by simp [e])]; exact ih
    · rw [List.filterMap_cons, List.filter_cons, if_pos (by simp [e]), if_pos (by simp [e]), List.map_cons, ← ih]
section
variable {X : Cx} {ρ : Env} {M : Mem} {pos : Pos} {a b : Expr}
theorem rd_inL {K : Fg} {s : Str} {ts : List Str} : RD K (rIn K false) (.str s) (.list (ts.map .str)) (.bool (decide (s ∈ ts))) := fun Hs H v u Q i p q k => by
  obtain ⟨l, vs, rfl, h1, h2⟩ := dp_lst q
  have e := dpAll_strs h2
  subst e
  refine ⟨l, _, rfl, .inl (i.seq h1), by rw [dp_str p]; rfl, by simp [flatV], ?_⟩
  rw [dp_str p]
  show Q (.bl (inV (.str s) (ts.map V.str))) H
  rw [inV_strs]
  exact k _ Hs H (.refl i) (.bl _)
theorem ptd_inStrsL {s : Str} {ts : List Str} (ha : PD X a ρ M (.str s)) (hb : PD X b ρ M (.list (ts.map .str))) (hm : behindInMarks .In b = false := by rfl) : PTD X (.Compare a [.In] [b] pos) ρ M (decide (s ∈ ts)) := ptd_cmp op_in_seq rd_inL ha hb hm
end
end AB
namespace AB
open PySem PySem.Spec PyProof.Rows L2
/-! ### equal data -/
mutual
def plainD : D → Bool
  | .int _ => true
  | .str _ => true
  | .none => true
  | .tuple ds => plainDs ds
  | .list ds => plainDs ds
  | _ => false
def plainDs : List D → Bool
  | [] => true
  | d :: ds => plainD d && plainDs ds
end
mutual
theorem eqv_plain : ∀ x y : D, plainD x = true → plainD y = true → (PyData.eqv x y = true ↔ x = y)
  | .int i, y, _, hy => by
    cases y <;> first | (simp [PyData.eqv]; done) | (cases hy; done) | simp [PyData.eqv]
  | .str i, y, _, hy => by
    cases y <;> first | (simp [PyData.eqv]; done) | (cases hy; done) | simp [PyData.eqv]
  | .none, y, _, hy => by
    cases y <;> first | (simp [PyData.eqv]; done) | (cases hy; done) | simp [PyData.eqv]
  | .tuple ds, y, hx, hy => by
    cases y with
    | tuple es =>
      rw [show PyData.eqv (.tuple ds) (.tuple es) = PyData.eqvAll ds es by simp [PyData.eqv], eqvAll_plain ds es (by simpa [plainD] using hx) (by simpa [plainD] using hy)]
      exact ⟨fun h => by rw [h], fun h => by cases h; rfl⟩
    | _ => first | (simp [PyData.eqv]; done) | (cases hy; done)
  | .list ds, y, hx, hy => by
    cases y with
    | list es =>
      rw [show PyData.eqv (.list ds) (.list es) = PyData.eqvAll ds es by simp [PyData.eqv], eqvAll_plain ds es (by simpa [plainD] using hx) (by simpa [plainD] using hy)]
      exact ⟨fun h => by rw [h], fun h => by cases h; rfl⟩
    | _ => first | (simp [PyData.eqv]; done) | (cases hy; done)
  | .bool _, _, hx, _ => by cases hx
  | .dict _, _, hx, _ => by cases hx
theorem eqvAll_plain : ∀ xs ys : List D, plainDs xs = true → plainDs ys = true → (PyData.eqvAll xs ys = true ↔ xs = ys)
  | [], [], _, _ => by simp [PyData.eqvAll]
  | [], _ :: _, _, _ => by simp [PyData.eqvAll]
  | _ :: _, [], _, _ => by simp [PyData.eqvAll]
  | x :: xs, y :: ys, hx, hy => by
    rw [plainDs, Bool.and_eq_true] at hx hy
    rw [show PyData.eqvAll (x :: xs) (y :: ys) = (PyData.eqv x y && PyData.eqvAll xs ys) by simp [PyData.eqvAll], Bool.and_eq_true, eqv_plain x y hx.1 hy.1, eqvAll_plain xs ys hx.2 hy.2]
    simp
end
theorem plainDs_iff {ds : List D} : plainDs ds = true ↔ ∀ d ∈ ds, plainD d = true := by
  induction ds with
  | nil => simp [plainDs]
  | cons d ds ih => rw [plainDs, Bool.and_eq_true, ih]; simp
theorem plain_tup {ds : List D} (h : ∀ d ∈ ds, plainD d = true) : plainD (.tuple ds) = true := by rw [plainD]; exact plainDs_iff.mpr h
theorem plain_lst {ds : List D} (h : ∀ d ∈ ds, plainD d = true) : plainD (.list ds) = true := by rw [plainD]; exact plainDs_iff.mpr h
theorem plain_pair (p : Str × Int) : plainD (dPair p) = true := rfl
theorem plain_chg (c : Chg) : plainD (dChg c) = true := by cases c <;> rfl
theorem plain_book (b : Book) : plainD (dBook b) = true := plain_tup fun d hd => by
  obtain ⟨p, _, rfl⟩ := List.mem_map.mp hd; exact plain_pair p
theorem plain_row (r : List Chg) : plainD (dRow r) = true := plain_tup fun d hd => by
  obtain ⟨p, _, rfl⟩ := List.mem_map.mp hd; exact plain_chg p
theorem dPair_inj {p q : Str × Int} (h : dPair p = dPair q) : p = q := by
  unfold dPair at h
  injection h with h
  injection h with h1 h2
  injection h2 with h2 _
  injection h1 with h1
  injection h2 with h2
  exact Prod.ext h1 h2
theorem dChg_inj {c d : Chg} (h : dChg c = dChg d) : c = d := by
  have e1 : wordC c = wordC d ∧ keyC c = keyC d ∧ tailC c = tailC d := by
    rw [dChg_eq, dChg_eq] at h
    injection h with h
    injection h with h1 h2
    injection h2 with h2 h3
    injection h1 with h1
    injection h2 with h2
    exact ⟨h1, h2, h3⟩
  obtain ⟨h1, h2, h3⟩ := e1
  cases c <;> cases d <;> simp only [wordC] at h1 <;> first
    | exact absurd h1 (by decide)
    | (cases h2; cases h3; rfl)
    | (cases h2; rfl)
theorem map_inj {α β : Type} {f : α → β} (hf : ∀ x y, f x = f y → x = y) : ∀ {l m : List α}, l.map f = m.map f → l = m
  | [], [], _ => rfl
  | [], _ :: _, h => by cases h
  | _ :: _, [], h => by cases h
  | x :: l, y :: m, h => by
    rw [List.map_cons, List.map_cons] at h
    injection h with h1 h2
    rw [hf x y h1, map_inj hf h2]
theorem dBook_inj {b c : Book} (h : dBook b = dBook c) : b = c := map_inj (fun _ _ => dPair_inj) (by unfold dBook at h; injection h)
theorem dRow_inj {b c : List Chg} (h : dRow b = dRow c) : b = c := map_inj (fun _ _ => dChg_inj) (by unfold dRow at h; injection h)
theorem eqv_map {α : Type} [DecidableEq α] {f : α → D} (hf : ∀ x y, f x = f y → x = y) (hp : ∀ x, plainD (f x) = true) (x y : α) : PyData.eqv (f x) (f y) = decide (x = y) := by
  rw [Bool.eq_iff_iff, eqv_plain _ _ (hp x) (hp y), decide_eq_true_eq]
  exact ⟨hf x y, fun e => by rw [e]⟩
theorem eqv_books (b c : Book) : PyData.eqv (dBook b) (dBook c) = decide (b = c) := eqv_map (fun _ _ => dBook_inj) plain_book b c
theorem eqv_rows (b c : List Chg) : PyData.eqv (dRow b) (dRow c) = decide (b = c) := eqv_map (fun _ _ => dRow_inj) plain_row b c
theorem any_map {α : Type} [DecidableEq α] {f : α → D} (hf : ∀ x y, f x = f y → x = y) (hp : ∀ x, plainD (f x) = true) (x : α) : ∀ l : List α, ((l.map f).any fun z => PyData.eqv z (f x)) = decide (x ∈ l)
  | [] => rfl
  | y :: l => by
    rw [List.map_cons, List.any_cons, any_map hf hp x l, eqv_map hf hp, Bool.eq_iff_iff]
    simp only [Bool.or_eq_true, decide_eq_true_eq, List.mem_cons]
    exact ⟨fun h => h.elim (fun e => .inl e.symm) .inr, fun h => h.elim (fun e => .inl e.symm) .inr⟩
theorem any_pairs (p : Str × Int) (b : Book) : ((b.map dPair).any fun z => PyData.eqv z (dPair p)) = decide (p ∈ b) := (any_map (f := dPair) (fun _ _ => dPair_inj) plain_pair p b).trans (decide_eq_decide.mpr Iff.rfl)
theorem any_ints (i : Int) (l : List Int) : ((l.map PyData.int).any fun z => PyData.eqv z (.int i)) = decide (i ∈ l) := any_map (fun _ _ h => by injection h) (fun _ => rfl) i l
theorem any_strs (i : Str) (l : List Str) : ((l.map PyData.str).any fun z => PyData.eqv z (.str i)) = decide (i ∈ l) := any_map (fun _ _ h => by injection h) (fun _ => rfl) i l
section
variable {X : Cx}
def rInTD (K : Fg) (neg : Bool) : R2 := fun x y H Q => ∃ d ds, Dp K H x d ∧ Dp K H y (.tuple ds) ∧ SeqAt.shaped d = true ∧ SeqAt.shaped (.tuple ds) = true ∧ Q (.bl (if neg then !ds.any fun z => PyData.eqv z d else ds.any fun z => PyData.eqv z d)) H
theorem op_inTD (hu : X.A.units + 65 < cLine) : OpR X (compareOp .In) (rInTD X.K false) := by
  intro pins s σ H x y v u Q I rx ry h
  obtain ⟨d, ds, hd, he, sd, se, q⟩ := h
  obtain ⟨as, r1⟩ := Dp.reads I d x v hd rx
  obtain ⟨bs, r2⟩ := Dp.reads I (.tuple ds) y u he ry
  exact SeqAt.in_tuple_reads r2 r1 (SeqAt.canLay_of_shaped se) (SeqAt.canLay_of_shaped sd) (room_in_shaped sd hu) ⟨.bl _, H, I, rfl, q⟩
theorem op_ninTD (hu : X.A.units + 65 < cLine) : OpR X (compareOp .NotIn) (rInTD X.K true) := by
  intro pins s σ H x y v u Q I rx ry h
  obtain ⟨d, ds, hd, he, sd, se, q⟩ := h
  obtain ⟨as, r1⟩ := Dp.reads I d x v hd rx
  obtain ⟨bs, r2⟩ := Dp.reads I (.tuple ds) y u he ry
  exact SeqAt.notIn_tuple_reads r2 r1 (SeqAt.canLay_of_shaped se) (SeqAt.canLay_of_shaped sd) (room_in_shaped sd hu) ⟨.bl _, H, I, rfl, q⟩
variable {ρ : Env} {M : Mem} {pos : Pos} {a b : Expr} {d : D} {ds : List D}
theorem rd_inTD {K : Fg} {neg : Bool} (hd : SeqAt.shaped d = true) (hs : SeqAt.shaped (.tuple ds) = true) : RD K (rInTD K neg) d (.tuple ds) (.bool (if neg then !ds.any fun z => PyData.eqv z d else ds.any fun z => PyData.eqv z d)) := fun Hs H v u Q i p q k =>
  ⟨d, ds, (dp_mono i p).dp (SeqAt.canLay_of_shaped hd), (dp_mono i q).dp (SeqAt.canLay_of_shaped hs), hd, hs, k _ Hs H (.refl i) (.bl _)⟩
theorem rd_inLD {K : Fg} (hd : SeqAt.shaped d = true) (hs : SeqAt.shaped (.list ds) = true) : RD K (rInD K) d (.list ds) (.bool (ds.any fun z => PyData.eqv z d)) := fun Hs H v u Q i p q k =>
  ⟨d, ds, (dp_mono i p).dp (SeqAt.canLay_of_shaped hd), (dp_mono i q).dp (SeqAt.canLay_of_shaped hs), hd, hs, k _ Hs H (.refl i) (.bl _)⟩
theorem rd_ninLD {K : Fg} (hd : SeqAt.shaped d = true) (hs : SeqAt.shaped (.list ds) = true) : RD K (rNotInD K) d (.list ds) (.bool (!ds.any fun z => PyData.eqv z d)) := fun Hs H v u Q i p q k =>
  ⟨d, ds, (dp_mono i p).dp (SeqAt.canLay_of_shaped hd), (dp_mono i q).dp (SeqAt.canLay_of_shaped hs), hd, hs, k _ Hs H (.refl i) (.bl _)⟩
theorem hu65 {k : Nat} {A : Around} (r : Room k A) : A.units + 65 < cLine := by have := r.un; omega
theorem ptd_inT (hu : X.A.units + 65 < cLine) (ha : PD X a ρ M d) (hb : PD X b ρ M (.tuple ds)) (hd : SeqAt.shaped d = true) (hs : SeqAt.shaped (.tuple ds) = true) (hm : behindInMarks .In b = false := by rfl) : PTD X (.Compare a [.In] [b] pos) ρ M (ds.any fun z => PyData.eqv z d) := ptd_cmp (op_inTD hu) (rd_inTD hd hs) ha hb hm
theorem ptd_ninT (hu : X.A.units + 65 < cLine) (ha : PD X a ρ M d) (hb : PD X b ρ M (.tuple ds)) (hd : SeqAt.shaped d = true) (hs : SeqAt.shaped (.tuple ds) = true) (hm : behindInMarks .NotIn b = false := by rfl) : PTD X (.Compare a [.NotIn] [b] pos) ρ M (!ds.any fun z => PyData.eqv z d) := ptd_cmp (op_ninTD hu) (rd_inTD hd hs) ha hb hm
theorem ptd_inL (hu : X.A.units + 65 < cLine) (ha : PD X a ρ M d) (hb : PD X b ρ M (.list ds)) (hd : SeqAt.shaped d = true) (hs : SeqAt.shaped (.list ds) = true) (hm : behindInMarks .In b = false := by rfl) : PTD X (.Compare a [.In] [b] pos) ρ M (ds.any fun z => PyData.eqv z d) := ptd_cmp (op_inD hu) (rd_inLD hd hs) ha hb hm
theorem ptd_ninL (hu : X.A.units + 65 < cLine) (ha : PD X a ρ M d) (hb : PD X b ρ M (.list ds)) (hd : SeqAt.shaped d = true) (hs : SeqAt.shaped (.list ds) = true) (hm : behindInMarks .NotIn b = false := by rfl) : PTD X (.Compare a [.NotIn] [b] pos) ρ M (!ds.any fun z => PyData.eqv z d) := ptd_cmp (op_notInD hu) (rd_ninLD hd hs) ha hb hm
theorem pd_inT (hu : X.A.units + 65 < cLine) (ha : PD X a ρ M d) (hb : PD X b ρ M (.tuple ds)) (hd : SeqAt.shaped d = true) (hs : SeqAt.shaped (.tuple ds) = true) (hm : behindInMarks .In b = false := by rfl) : PD X (.Compare a [.In] [b] pos) ρ M (.bool (ds.any fun z => PyData.eqv z d)) := pd_cmp (op_inTD hu) (rd_inTD hd hs) ha hb hm
theorem pd_inL (hu : X.A.units + 65 < cLine) (ha : PD X a ρ M d) (hb : PD X b ρ M (.list ds)) (hd : SeqAt.shaped d = true) (hs : SeqAt.shaped (.list ds) = true) (hm : behindInMarks .In b = false := by rfl) : PD X (.Compare a [.In] [b] pos) ρ M (.bool (ds.any fun z => PyData.eqv z d)) := pd_cmp (op_inD hu) (rd_inLD hd hs) ha hb hm
end
section
variable {X : Cx} {ρ : Env} {M : Mem} {pos : Pos} {a b : Expr} {d e : D} {Φ : Post}
/-- x, y = a, b -/
theorem ds_par (i j : Nat) {x y : Str} {px py pt pt2 : Pos} {kt k2 : Nat} (hc : X.calm = true) (hN : X.N.Nodup) (hij : i ≠ j) (ha : PDs X [a, b] ρ M [d, e]) (h : Φ.nx ((ρ.set i (.d d)).set j (.d e)) M) (hi : X.N[i]? = some x := by rfl) (hj : X.N[j]? = some y := by rfl)
    (hx : X.env.scope.names.lookup x = some .local := by rfl) (hy : X.env.scope.names.lookup y = some .local := by rfl) (hw : swappedStores [.Tuple [.Name x px, .Name y py] kt pt] (.Tuple [a, b] k2 pt2) X.env = pure (some [x, y]) := by rfl)
    (hs : swapsWithSole [.Tuple [.Name x px, .Name y py] kt pt] (.Tuple [a, b] k2 pt2) pos.line X.env = pure false := by rfl) : DS X (.Assign [.Tuple [.Name x px, .Name y py] kt pt] (.Tuple [a, b] k2 pt2) pos) ρ M Φ :=
  ⟨fun Hs H σ E r q A => PS.w (ps_par hc hN hi hj hij hx hy pa_w hw hs) (ha.run Hs H σ _ r q fun vs Hs1 H1 g p => by
    cases p with
    | cons p1 p2 => cases p2 with
      | cons p2 p3 =>
        cases p3
        exact ⟨_, _, rfl, A.nx Hs1 H1 M _ _ (r.grow g) g.fr (((q.mono g.s).set i (s := .d d) ⟨_, rfl, p1⟩).set j (s := .d e) ⟨_, rfl, p2⟩) h⟩)⟩
end
end AB
namespace AB
open PySem L2
/-! ### cuts at a number -/
theorem sIx_nat (n d i : Nat) : HT.sIx n d (some (i : Int)) = min i n := by
  unfold HT.sIx
  simp only
  split <;> omega
theorem cut_take {α : Type} (xs : List α) (i : Nat) : cutD xs none (some (i : Int)) = xs.take i := by
  unfold cutD
  rw [sIx_nat]
  show (xs.drop 0).take (min i xs.length - 0) = _
  rw [List.drop_zero, Nat.sub_zero]
  rcases Nat.le_total i xs.length with h | h
  · rw [Nat.min_eq_left h]
  · rw [Nat.min_eq_right h, List.take_length, List.take_of_length_le h]
theorem cut_drop {α : Type} (xs : List α) (i : Nat) : cutD xs (some (i : Int)) none = xs.drop i := by
  unfold cutD
  rw [sIx_nat]
  show (xs.drop (min i xs.length)).take (xs.length - min i xs.length) = _
  rcases Nat.le_total i xs.length with h | h
  · rw [Nat.min_eq_left h, List.take_of_length_le (by rw [List.length_drop]; exact Nat.le_refl _)]
  · rw [Nat.min_eq_right h, List.drop_length, List.drop_of_length_le h, List.take_nil]
/-! ### rows put together -/
theorem runF_app (f : Fn) (r s : List Chg) : runF f (r ++ s) = runF (runF f r) s := List.foldl_append ..
theorem done_app {b : Book} (h : KeysND b) (r s : List Chg) : doneA (doneA b r) s = doneA b (r ++ s) :=
  book_ext (done_ok (done_ok h r).nd s) (done_ok h _) fun k => by rw [done_look (done_ok h r).nd, done_look h, done_look h, runF_app]
theorem done_nil {b : Book} (h : BookOk b) : doneA b [] = b := book_ext (done_ok h.nd []) h fun k => by rw [done_look h.nd]; rfl
theorem done_ext {b c : Book} {r s : List Chg} (hb : KeysND b) (hc : KeysND c) (h : ∀ k, runF (lookA b) r k = runF (lookA c) s k) : doneA b r = doneA c s :=
  book_ext (done_ok hb r) (done_ok hc s) fun k => by rw [done_look hb, done_look hc, h]
/-! ### the way between two books -/
theorem btw_run {b c : Book} (hc : ∀ k w, lookA c k = some w → 0 ≤ w) : ∀ {ks : List Str} {f : Fn}, ks.Nodup → (∀ k ∈ ks, f k = lookA b k) → ∀ j, runF f (ks.filterMap (btwS b c)) j = if j ∈ ks then lookA c j else f j
  | [], f, _, _, j => by simp [runF]
  | k :: ks, f, hn, hf, j => by
    obtain ⟨n1, n2⟩ := List.nodup_cons.mp hn
    have fk := hf k List.mem_cons_self
    have step : ∀ g : Fn, (∀ i, g i = if i = k then lookA c k else f i) → runF g (ks.filterMap (btwS b c)) j = if j ∈ k :: ks then lookA c j else f j := fun g hg => by
      rw [btw_run hc n2 (f := g) (fun i hi => by
        have : i ≠ k := fun e => n1 (e ▸ hi)
        rw [hg, if_neg this]; exact hf i (List.mem_cons_of_mem _ hi)) j]
      by_cases h1 : j ∈ ks
      · rw [if_pos h1, if_pos (List.mem_cons_of_mem _ h1)]
      · rw [if_neg h1, hg]
        by_cases h2 : j = k
        · rw [if_pos h2, if_pos (by rw [h2]; exact List.mem_cons_self), h2]
        · rw [if_neg h2, if_neg fun z => (List.mem_cons.mp z).elim h2 h1]
    rw [List.filterMap_cons]
    cases q : lookA c k with
    | none =>
      have e : btwS b c k = some (.drop k) := by unfold btwS; rw [q]
      rw [e]
      exact step _ fun i => by rw [q]; rfl
    | some w =>
      by_cases h : (lookA b k).getD (-1) = w
      · have e : btwS b c k = none := by unfold btwS; rw [q]; exact if_pos h
        rw [e]
        refine step f fun i => ?_
        by_cases hi : i = k
        · rw [if_pos hi, hi, fk, q]
          cases q2 : lookA b k with
          | none =>
            rw [q2] at h
            have := hc k w q
            have h : -1 = w := h
            omega
          | some v => rw [q2] at h; rw [show v = w from h]
        · rw [if_neg hi]
      · have e : btwS b c k = some (.put k w) := by unfold btwS; rw [q]; exact if_neg h
        rw [e]
        exact step _ fun i => by rw [q]; rfl
theorem btw_done {b c : Book} (hb : KeysND b) (hc : BookOk c) (hw : ∀ k w, lookA c k = some w → 0 ≤ w) : doneA b (btwA b c) = c :=
  book_ext (done_ok hb _) hc fun k => by
    rw [done_look hb]
    unfold btwA
    rw [btw_run hw (rise_nodup (keySet_rise _)) fun _ _ => rfl]
    split
    · rfl
    · rename_i h
      rw [keySet_mem, List.mem_append] at h
      have h1 := look_none.mpr fun z => h (.inl z)
      have h2 := look_none.mpr fun z => h (.inr z)
      rw [h1, h2]
theorem btw_self (b : Book) : btwA b b = [] := by
  unfold btwA
  rw [List.filterMap_eq_nil_iff]
  intro k hk
  rw [keySet_mem, List.mem_append] at hk
  have hk : k ∈ b.map (·.1) := hk.elim id id
  obtain ⟨v, hv⟩ := Option.isSome_iff_exists.mp (look_key.mpr hk)
  unfold btwS
  rw [hv]
  exact if_pos rfl
theorem btw_mem {b c : Book} {x : Chg} (h : x ∈ btwA b c) : ∃ k, k ∈ b.map (·.1) ++ c.map (·.1) ∧ btwS b c k = some x ∧ (x = .drop k ∨ ∃ w, lookA c k = some w ∧ x = .put k w) := by
  obtain ⟨k, hk, e⟩ := List.mem_filterMap.mp h
  rw [keySet_mem] at hk
  refine ⟨k, hk, e, ?_⟩
  unfold btwS at e
  cases q : lookA c k with
  | none => rw [q] at e; cases e; exact .inl rfl
  | some w =>
    rw [q] at e
    simp only at e
    split at e
    · cases e
    · cases e; exact .inr ⟨w, rfl, rfl⟩
theorem btw_in {S : List Str} {b c : Book} (hb : BookIn S b) (hc : BookIn S c) : ∀ x ∈ btwA b c, ChgIn S x := fun x hx => by
  obtain ⟨k, hk, _, e⟩ := btw_mem hx
  have hk : k ∈ S := (List.mem_append.mp hk).elim (hb.sub k) (hc.sub k)
  rcases e with rfl | ⟨w, hw, rfl⟩
  · exact hk
  · exact ⟨hk, (hc.fn k w hw).2⟩
theorem btw_len (b c : Book) : (btwA b c).length ≤ b.length + c.length := by
  unfold btwA
  refine Nat.le_trans (List.length_filterMap_le ..) (Nat.le_trans (keySet_len _) ?_)
  rw [List.length_append, List.length_map, List.length_map]; exact Nat.le_refl _
theorem fm_keys {α β γ : Type} {f : α → Option β} {g : β → γ} {h : α → γ} (e : ∀ x y, f x = some y → g y = h x) : ∀ l : List α, (l.filterMap f).map g = (l.filter fun x => (f x).isSome).map h
  | [] => rfl
  | x :: l => by
    rw [List.filterMap_cons, List.filter_cons]
    cases q : f x with
    | none => exact fm_keys e l
    | some y =>
      show (y :: l.filterMap f).map g = (x :: l.filter _).map h
      rw [List.map_cons, List.map_cons, fm_keys e l, e x y q]
/-- the keys of the way, as the law tells them -/
theorem btw_keys {b c : Book} (hb : KeysND b) (hc : KeysND c) (hw : ∀ k w, lookA c k = some w → 0 ≤ w) :
    (btwA b c).map keyC = keySet ((b.filter fun p => !decide (p ∈ c)).map (·.1) ++ (c.filter fun p => !decide (p ∈ b)).map (·.1)) := by
  have e : (btwA b c).map keyC = ((keySet (b.map (·.1) ++ c.map (·.1))).filter fun k => (btwS b c k).isSome) := by
    unfold btwA
    rw [fm_keys (h := id)]
    · rw [List.map_id]
    · intro k x hx
      unfold btwS at hx
      cases q : lookA c k with
      | none => rw [q] at hx; cases hx; rfl
      | some w =>
        rw [q] at hx
        simp only at hx
        split at hx
        · cases hx
        · cases hx; rfl
  rw [e]
  refine rise_uniq (List.Pairwise.sublist List.filter_sublist (keySet_rise _)) (keySet_rise _) fun k => ?_
  rw [List.mem_filter, keySet_mem, keySet_mem, List.mem_append, List.mem_append]
  have m1 : k ∈ (b.filter fun p => !decide (p ∈ c)).map (·.1) ↔ ∃ v, lookA b k = some v ∧ lookA c k ≠ some v := by
    simp only [List.mem_map, List.mem_filter, Bool.not_eq_true', decide_eq_false_iff_not]
    constructor
    · rintro ⟨p, ⟨h1, h2⟩, rfl⟩
      exact ⟨p.2, look_of hb h1, fun z => h2 (look_mem z)⟩
    · rintro ⟨v, h1, h2⟩
      exact ⟨(k, v), ⟨look_mem h1, fun z => h2 (look_of hc z)⟩, rfl⟩
  have m2 : k ∈ (c.filter fun p => !decide (p ∈ b)).map (·.1) ↔ ∃ v, lookA c k = some v ∧ lookA b k ≠ some v := by
    simp only [List.mem_map, List.mem_filter, Bool.not_eq_true', decide_eq_false_iff_not]
    constructor
    · rintro ⟨p, ⟨h1, h2⟩, rfl⟩
      exact ⟨p.2, look_of hc h1, fun z => h2 (look_mem z)⟩
    · rintro ⟨v, h1, h2⟩
      exact ⟨(k, v), ⟨look_mem h1, fun z => h2 (look_of hb z)⟩, rfl⟩
  rw [m1, m2, ← look_key (b := b), ← look_key (b := c)]
  unfold btwS
  cases qb : lookA b k with
  | none =>
    cases qc : lookA c k with
    | none => simp
    | some w =>
      have := hw k w qc
      have h1 : ¬ ((none : Option Int).getD (-1) = w) := by show ¬ (-1 = w); omega
      simp [h1]
      omega
  | some v =>
    cases qc : lookA c k with
    | none => simp
    | some w =>
      by_cases e : v = w
      · subst e; simp
      · have e' : ¬ w = v := fun z => e z.symm
        simp [e, e']
end AB
namespace AB
open PySem L2
/-! ### filters of rows, as data -/
def unChg : D → Option Chg
  | .tuple [.str w, .str k] => some (.drop k)
  | .tuple [.str w, .str k, .int x] => if w = "put" then some (.put k x) else if w = "add" then some (.add k x) else some (.keep k x)
  | .tuple [.str w, .str a, .str b] => some (.move a b)
  | _ => none
theorem unChg_d (c : Chg) : unChg (dChg c) = some c := by
  cases c with
  | put k w => rfl
  | add k w => show (if ("add" : Str) = "put" then some (Chg.put k w) else if ("add" : Str) = "add" then some (Chg.add k w) else some (Chg.keep k w)) = _; rw [if_neg (by decide), if_pos rfl]
  | keep k w => show (if ("keep" : Str) = "put" then some (Chg.put k w) else if ("keep" : Str) = "add" then some (Chg.add k w) else some (Chg.keep k w)) = _; rw [if_neg (by decide), if_neg (by decide)]
  | drop k => rfl
  | move a b => rfl
def rowF (g : Chg → Option D) (d : D) : Option D := (unChg d).bind g
theorem rowF_d (g : Chg → Option D) (c : Chg) : rowF g (dChg c) = g c := by unfold rowF; rw [unChg_d]; rfl
theorem fm_row (g : Chg → Option D) (r : List Chg) : (r.map dChg).filterMap (rowF g) = r.filterMap g := by
  rw [List.filterMap_map]
  congr 1
  funext c
  exact rowF_d g c
theorem pairF_d (g : Str × Int → Option D) (p : Str × Int) : bookF g (dPair p) = g p := rfl
section
variable {X : Cx} {ρ : Env} {M : Mem} {pos : Pos} {a b : Expr}
theorem ptd_ninStrs {s : Str} {ts : List Str} (ha : PD X a ρ M (.str s)) (hb : PD X b ρ M (.tuple (ts.map .str))) (hm : behindInMarks .NotIn b = false := by rfl) : PTD X (.Compare a [.NotIn] [b] pos) ρ M (!decide (s ∈ ts)) :=
  ptd_cmp op_notIn_seq (fun Hs H v u Q i p q k => by
    obtain ⟨l, vs, rfl, h1, h2⟩ := dp_tup q
    have e := dpAll_strs h2
    subst e
    refine ⟨l, _, rfl, .inr (h1.mono i).sq, by rw [dp_str p]; rfl, by simp [flatV], ?_⟩
    rw [dp_str p]
    show Q (.bl (!inV (.str s) (ts.map V.str))) H
    rw [inV_strs]
    exact k _ Hs H (.refl i) (.bl _)) ha hb hm
theorem rd_ninL {K : Fg} {s : Str} {ts : List Str} : RD K (rIn K true) (.str s) (.list (ts.map .str)) (.bool (!decide (s ∈ ts))) := fun Hs H v u Q i p q k => by
  obtain ⟨l, vs, rfl, h1, h2⟩ := dp_lst q
  have e := dpAll_strs h2
  subst e
  refine ⟨l, _, rfl, .inl (i.seq h1), by rw [dp_str p]; rfl, by simp [flatV], ?_⟩
  rw [dp_str p]
  show Q (.bl (!inV (.str s) (ts.map V.str))) H
  rw [inV_strs]
  exact k _ Hs H (.refl i) (.bl _)
theorem ptd_ninStrsL {s : Str} {ts : List Str} (ha : PD X a ρ M (.str s)) (hb : PD X b ρ M (.list (ts.map .str))) (hm : behindInMarks .NotIn b = false := by rfl) : PTD X (.Compare a [.NotIn] [b] pos) ρ M (!decide (s ∈ ts)) := ptd_cmp op_notIn_seq rd_ninL ha hb hm
end
theorem ok_strs {n : Nat} {ts : List Str} (h : ∀ k ∈ ts, KeyOk k) (hl : ts.length ≤ 1000) : okD (n + 1) (.list (ts.map .str)) := okD_lst (by rw [List.length_map]; exact hl) fun d hd => by
  obtain ⟨k, hk, rfl⟩ := List.mem_map.mp hd
  exact ok_str (h k hk)
end AB
namespace AB
open PySem PySem.Spec PyProof.Rows L2
section
variable {prog : Program} {w : World} {A : Around} {E : Value → Shared → Prop} {s : Shared}
/-- set(t), t a tuple of texts -/
theorem call_set_strsT {l : Addr} {items : Array Value} {xs : List Str} {Q : Value → Shared → Prop} (hh : A.handled = none) (hl : s.heap.IsTuple l items) (hi : StrsAre items.toList xs) (hb : xs.length + 1 < scanBound)
    (h : ∀ (h' : Heap) (tk m : Nat), m ≤ xs.length → SetS prog w h' s.heap.objs.size (fun k => decide (k ∈ xs)) m → (∀ b o, s.heap.get? b = some o → h'.get? b = some o) → Q (.ref s.heap.objs.size) { s with heap := h', toks := tk }) :
    wpAny (model prog w) A (call (.type "set") [.ref l]) Q E s := by
  have hisz : xs.length = items.size := by rw [← strs_len hi, Array.length_toList]
  obtain ⟨c, tl, hmro⟩ := PySem.F.called_set.mro
  have hmade := PySem.F.called_set.made
  have hsub := PySem.F.called_set.sub
  refine wpAny_call (codeAny_of_tree ?_)
  show wpAny _ _ (callAny (.type "set") _) _ _ _
  refine wpAny_pure ⟨Code.quiet_builtin _ (by decide +kernel), codeAny_builtin PySem.F.entry_type_call ?_⟩
  rw [Around.under_plain (weight_type_call_type "set" [.ref l] []) rfl]
  have h1 := PySem.F.called_set.notType
  have h2 := PySem.F.called_set.canCreate
  have hct := PySem.F.typeCall_set_1 (.ref l)
  repeat (any_goals (first | assumption | wp_step))
  refine codeAny_mono (code_set_led1 (.ref l) (E := E) (Q₁ := fun obj s₁ => obj = .ref s.heap.objs.size ∧ s₁ = { s with heap := s.heap.push { cls := .type "set", dict := none, data := .set #[] 0 (.fresh 0 0 (!w.params.followText "set-order")) } }) ⟨rfl, rfl⟩) fun r s₁ hr => ?_
  cases r with
  | error e => exact hr
  | ok fl =>
    cases fl with
    | ret obj =>
      obtain ⟨rfl, rfl⟩ := hr
      have hS : (s.heap.push { cls := .type "set", dict := none, data := .set #[] 0 (.fresh 0 0 (!w.params.followText "set-order")) }).get? s.heap.objs.size = some { cls := .type "set", dict := none, data := .set #[] 0 (.fresh 0 0 (!w.params.followText "set-order")) } := Heap.get?_push_size _ rfl
      have hT : Shared.TypeIs { s with heap := s.heap.push { cls := .type "set", dict := none, data := .set #[] 0 (.fresh 0 0 (!w.params.followText "set-order")) } } (.ref s.heap.objs.size) "set" := ⟨_, hS, rfl⟩
      have hli := PySem.F.called_set.init.lookup
      have hbi := PySem.F.called_set.init.bind (.ref s.heap.objs.size)
      repeat (any_goals (first | assumption | wp_step))
      refine codeAny_mono (codeAny_call_builtin (R := wants (fun r s₂ => r = .none ∧ ∃ h' tk m, s₂ = { s with heap := h', toks := tk } ∧ m ≤ xs.length ∧ SetS prog w h' s.heap.objs.size (fun k => decide (k ∈ xs)) m ∧
          (∀ b o, s.heap.get? b = some o → h'.get? b = some o)) E) PySem.F.called_set.init.plain PySem.F.entry_set_init (check_set_init_1 hT ?_)) fun r₂ s₂ hr₂ => ?_
      · obtain ⟨ol, hol, hcl, nl, hdl⟩ := hl
        obtain ⟨ocls, odict, odata, oslots⟩ := ol
        simp only at hcl hdl
        subst hcl; subst hdl
        have hol' : (s.heap.push { cls := .type "set", dict := none, data := .set #[] 0 (.fresh 0 0 (!w.params.followText "set-order")) }).get? l = some { cls := .type "tuple", dict := odict, data := .seq items nl, slots := oslots } := Heap.get?_push_of_some _ hol
        have hsls := PySem.F.sub_tuple_set
        have hslf := PySem.F.sub_tuple_frozenset
        have hne : (Value.type "tuple" == Value.type "dict") = false := by decide
        have hl1 : (s.heap.push { cls := .type "set", dict := none, data := .set #[] 0 (.fresh 0 0 (!w.params.followText "set-order")) }).IsTuple l items := ⟨_, hol', rfl, nl, rfl⟩
        unfold Builtin.«set.__init__» noKeywords Builtin.Frozenset.updateFrom
        generalize hPI : pyIter = PI
        wp_walk
        subst hPI
        refine wpAny_pyIter_tuple hl1 ?_
        refine wpAny_bind (wpAny_runValue ?_)
        have hlS : l < s.heap.objs.size := Heap.lt_size hol
        have hh3 : A.in1.in1.in1.handled = none := by simp [hh]
        have hneI : l ≠ (s.heap.push { cls := .type "set", dict := none, data := .set #[] 0 (.fresh 0 0 (!w.params.followText "set-order")) }).objs.size := by
          rw [Heap.size_push]; exact Nat.ne_of_lt (Nat.lt_succ_of_lt hlS)
        have hSf : s.heap.objs.size ∉ [(s.heap.push { cls := .type "set", dict := none, data := .set #[] 0 (.fresh 0 0 (!w.params.followText "set-order")) }).objs.size, l] := by
          rw [Heap.size_push]; simp only [List.mem_cons, List.mem_singleton, List.not_mem_nil, or_false, not_or]
          exact ⟨Nat.ne_of_lt (Nat.lt_succ_self _), Nat.ne_of_gt hlS⟩
        have hval : ∀ (i : Nat) (v : Value), items[i]? = some v → ∃ t, v = .str (xs.getD i "") t := fun i v hv =>
          strs_getD hi i v (by rw [Array.getElem?_toList]; exact hv)
        refine set_loopS ((Walks.tuple hh3 _ l hneI items).toS) s.heap.objs.size
          hSf xs hisz hval (by omega) (items.size - 0) 0 _ (by omega) (Nat.zero_le _)
          ⟨⟨_, Heap.get?_push_size _ rfl, rfl, rfl⟩, (hl1.push _)⟩ ?hS0 ?hR
        case hS0 =>
          refine ⟨0, Nat.le_refl _, ((setS_fresh (P := prog) (h := s.heap) w).at fun o e => Heap.get?_push_of_some _ e).congr fun k => ?_⟩
          simp
        case hR =>
          intro s' hm hS'
          obtain ⟨m, hm', hS'⟩ := hS'
          obtain ⟨h', g2, d', tk', os'⟩ := s'
          have eg : g2 = s.gens := hm.gens
          have ed : d' = s.drawn := hm.drawn
          have eo : os' = s.os := hm.os
          subst eg; subst ed; subst eo
          show wpAny _ _ _ _ _ _
          refine wpAny_pure ?_
          show wpAny _ _ (ret Value.none) _ _ _
          refine wpAny_pure ⟨rfl, h', tk', m, rfl, by omega, hS', fun b o e => ?_⟩
          have hb := Heap.lt_size e
          have hb1 : b ≠ s.heap.objs.size := Nat.ne_of_lt hb
          have hb2 : b ≠ (s.heap.push { cls := .type "set", dict := none, data := .set #[] 0 (.fresh 0 0 (!w.params.followText "set-order")) }).objs.size := by
            rw [Heap.size_push]; exact Nat.ne_of_lt (Nat.lt_succ_of_lt hb)
          exact hm.heap b o (by simp only [List.mem_cons, List.mem_singleton, List.not_mem_nil, or_false, not_or]; exact ⟨hb1, hb2⟩) (Heap.get?_push_of_some _ (Heap.get?_push_of_some _ e))
      · cases r₂ with
        | error e => exact hr₂
        | ok fl₂ =>
          cases fl₂ with
          | ret r =>
            obtain ⟨rfl, h', tk, m, rfl, hm', hS', hk'⟩ := hr₂
            repeat (any_goals (first | assumption | wp_step))
            exact h _ _ _ hm' hS' hk'
          | _ => exact hr₂.elim
    | _ => exact hr.elim
end
section
variable {X : Cx}
def rSetOfST (K : Fg) (P : Program) (w : World) : List V → Hp → VK → Prop := fun vs H Q => ∃ (l : Addr) (xs : List Str), vs = [V.ref l] ∧ SqT K H l (xs.map V.str) ∧ xs.length < 60 ∧ ∀ p m, H p = none → m ≤ xs.length → Q (.ref p) (upd H p (SetSO P w p (fun k => decide (k ∈ xs)) m))
theorem cr_setOfST (hc : X.calm = true) : CallR X (.type "set") (rSetOfST X.K X.prog X.w) := by
  intro pins s σ H vs us Q I r h
  obtain ⟨l, xs, rfl, hs, hz, q⟩ := h
  obtain ⟨its, rv, hl, hz'⟩ := I.tuple hs
  rw [Vals.ref1 r]
  refine call_set_strsT (I.ok.hd hc) (show s.heap.IsTuple l its.toArray from hl) (strsAre_of rv) (by unfold scanBound; omega) fun h' tk m hm R kp => ?_
  exact ⟨.ref _, upd H s.heap.objs.size (SetSO X.prog X.w s.heap.objs.size (fun k => decide (k ∈ xs)) m), I.laid kp (Nat.le_refl _) (setSO_new R), rfl, q _ m (I.hok.fresh (Nat.le_refl _)) hm⟩
variable {M : Mem} {e a b c : Expr} {ρ : Env} {pos p p2 cpos : Pos} {xs : List Str} {ps : Book}
/-- sorted(set(t)), t a tuple of texts -/
theorem pd_sortedSetT (hc : X.calm = true) (hg : Gl X "sorted") (hm : X.mg "sorted" = none) (hg2 : Gl X "set") (hm2 : X.mg "set" = none) (ha : PD X e ρ M (.tuple (xs.map .str))) (hz : xs.length < 60) (hs2 : starEach [e] X.env = (false, eval e X.env) :: starEach [] X.env := by rfl)
    (hs : starEach [.Call (.Name "set" p2) [e] [] cpos] X.env = (false, eval (.Call (.Name "set" p2) [e] [] cpos) X.env) :: starEach [] X.env := by rfl) : PD X (.Call (.Name "sorted" p) [.Call (.Name "set" p2) [e] [] cpos] [] pos) ρ M (.list ((keySet xs).map .str)) :=
  pd_of (pe_callB (cr_sortedSetS hc) hg hm boot_sorted (pa_cons (pe_callTy (cr_setOfST hc) hg2 hm2 boot_set (pa_cons pe_w pa_nil hs2) (by decide) (by decide) hs2) pa_nil hs) (by decide) (by decide) hs) fun Hs H σ Q r q k => ha.run Hs H σ _ r q fun v Hs1 H1 g1 p1 => by
    obtain ⟨l, ws, rfl, h1, h2⟩ := dp_tup p1
    have ew := dpAll_strs h2
    subst ew
    refine ⟨l, xs, rfl, (h1.mono g1.i).sq, hz, fun w m hw hm' => ?_⟩
    refine ⟨w, _, m, rfl, upd_same, by omega, fun ys t hys hn hmem ht => ?_⟩
    have ey : ys = keySet xs := rise_uniq (rise_of hys hn) (keySet_rise xs) fun j => by rw [hmem j, decide_eq_true_eq, keySet_mem]
    rw [ey]
    have g2 : Grow Hs1 H1 Hs1 (upd H1 w (SetSO X.prog X.w w (fun k => decide (k ∈ xs)) m)) := .newH g1.i hw
    exact k _ _ _ ((g1.trans g2).trans (.new g2.i ht)) (.lst (.of upd_same) dpAll_strs')
end
end AB
namespace AB
open PySem L2
/-! ### the keys of a change; books over keys; witnesses -/
def keysC : Chg → List Str
  | .move a b => [a, b]
  | c => [keyC c]
def FKeysOf : List D → D → Prop := fun ds d => ∃ c : Chg, ds = [dChg c] ∧ d = .tuple ((keysC c).map .str)
def extD (k : Str) (b : Book) : List Book := [b, putA b k 0, putA b k 1]
def dictsA (ks : List Str) : List Book := ks.foldl (fun found k => found.flatMap (extD k)) [[]]
def booksA (ks : List Str) : List Book := (dictsA ks).map sortB
def FBooksOver : List D → D → Prop := fun ds d => ∃ ks : List Str, ds = [.list (ks.map .str)] ∧ ks.length ≤ 4 ∧ d = .list ((booksA ks).map dBook)
def witA (c e : Chg) : Option Book := (booksA (keySet (keysC c ++ keysC e))).find? fun b => !decide (doneA b [c, e] = doneA b [e, c])
def optB : Option Book → D
  | some b => dBook b
  | none => .none
def FWitness : List D → D → Prop := fun ds d => ∃ (S : List Str) (c e : Chg), ds = [dChg c, dChg e] ∧ SOk S ∧ S.length ≤ 20 ∧ ChgIn S c ∧ ChgIn S e ∧ d = optB (witA c e)
def apartA (c e : Chg) : Bool := (witA c e).isNone
def FApart : List D → D → Prop := fun ds d => ∃ (S : List Str) (c e : Chg), ds = [dChg c, dChg e] ∧ SOk S ∧ S.length ≤ 20 ∧ ChgIn S c ∧ ChgIn S e ∧ d = .bool (apartA c e)
theorem mdel_mup {M : Mem} {l : Addr} {mo : MO} (h : M l = none) : mdel (mup M l mo) l = M := by
  funext b
  unfold mdel mup
  split
  · rename_i e; rw [e]; exact h.symm
  · rfl
theorem dicts_app (ks : List Str) (k : Str) : dictsA (ks ++ [k]) = (dictsA ks).flatMap (extD k) := by unfold dictsA; rw [List.foldl_append]; rfl
theorem dicts_len : ∀ (ks : List Str) (l : List Book), (ks.foldl (fun found k => found.flatMap (extD k)) l).length = l.length * 3 ^ ks.length
  | [], l => by simp
  | k :: ks, l => by
    show (ks.foldl _ (l.flatMap (extD k))).length = _
    rw [dicts_len ks]
    have : (l.flatMap (extD k)).length = l.length * 3 := by
      induction l with
      | nil => rfl
      | cons b l ih => rw [List.flatMap_cons, List.length_append, ih, List.length_cons]; show 3 + _ = _; omega
    rw [this, List.length_cons, Nat.pow_succ, Nat.mul_assoc, Nat.mul_comm 3]
theorem dicts_le {ks : List Str} (h : ks.length ≤ 4) : (dictsA ks).length ≤ 81 := by
  have e := dicts_len ks [[]]
  have : (dictsA ks).length = 1 * 3 ^ ks.length := e
  rw [this, Nat.one_mul]
  exact Nat.le_trans (Nat.pow_le_pow_right (by decide) h) (by decide)
theorem keysC_len (c : Chg) : (keysC c).length ≤ 2 := by cases c <;> simp [keysC]
theorem keysC_in {S : List Str} {c : Chg} (h : ChgIn S c) : ∀ k ∈ keysC c, k ∈ S := by
  intro k hk
  cases c with
  | put a w => rw [List.mem_singleton.mp hk]; exact h.1
  | add a w => rw [List.mem_singleton.mp hk]; exact h.1
  | keep a w => rw [List.mem_singleton.mp hk]; exact h.1
  | drop a => rw [List.mem_singleton.mp hk]; exact h
  | move a b =>
    simp only [keysC, List.mem_cons, List.not_mem_nil, or_false] at hk
    rcases hk with rfl | rfl
    · exact h.1
    · exact h.2
/-- a dict over keys -/
structure Over (ks : List Str) (b : Book) : Prop where
  nd : KeysND b
  sub : ∀ k ∈ b.map (·.1), k ∈ ks
  val : ∀ k v, lookA b k = some v → v = 0 ∨ v = 1
theorem over_ext {ks : List Str} {k : Str} {b c : Book} (hb : Over ks b) (hc : c ∈ extD k b) : Over (ks ++ [k]) c := by
  have put : ∀ v, v = 0 ∨ v = 1 → Over (ks ++ [k]) (putA b k v) := fun v hv => ⟨put_nd hb.nd k v, fun j hj => by
    rw [put_keys] at hj
    split at hj
    · exact List.mem_append_left _ (hb.sub j hj)
    · rcases List.mem_append.mp hj with h | h
      · exact List.mem_append_left _ (hb.sub j h)
      · exact List.mem_append_right _ h, fun j u hu => by
    rw [put_look] at hu
    split at hu
    · cases hu; exact hv
    · exact hb.val j u hu⟩
  simp only [extD, List.mem_cons, List.not_mem_nil, or_false] at hc
  rcases hc with rfl | rfl | rfl
  · exact ⟨hb.nd, fun j hj => List.mem_append_left _ (hb.sub j hj), hb.val⟩
  · exact put 0 (.inl rfl)
  · exact put 1 (.inr rfl)
theorem over_all (ks : List Str) : ∀ b ∈ dictsA ks, Over ks b := by
  have : ∀ (ks done : List Str) (l : List Book), (∀ b ∈ l, Over done b) → ∀ b ∈ ks.foldl (fun found k => found.flatMap (extD k)) l, Over (done ++ ks) b := by
    intro ks
    induction ks with
    | nil => intro done l h b hb; rw [List.append_nil]; exact h b hb
    | cons k ks ih =>
      intro done l h b hb
      have e : done ++ k :: ks = (done ++ [k]) ++ ks := by simp
      rw [e]
      refine ih (done ++ [k]) (l.flatMap (extD k)) (fun c hc => ?_) b hb
      obtain ⟨b0, h0, h1⟩ := List.mem_flatMap.mp hc
      exact over_ext (h b0 h0) h1
  exact this ks [] [[]] fun b hb => by
    rw [List.mem_singleton.mp hb]
    exact ⟨List.nodup_nil, (fun k hk => nomatch hk), (fun k v h => nomatch h)⟩
def unP (kvs : List (D × D)) : Book := kvs.map fun p => (match p.1 with | .str s => s | _ => "", match p.2 with | .int i => i | _ => 0)
def dictF (g : Book → Option D) : D → Option D
  | .dict kvs => g (unP kvs)
  | _ => none
theorem dictF_d (g : Book → Option D) (b : Book) : dictF g (dDict b) = g b := by
  show g (unP (b.map fun p => (.str p.1, .int p.2))) = g b
  congr 1
  unfold unP
  rw [List.map_map]
  exact List.map_id' b
theorem fm_dicts (g : Book → Option D) (l : List Book) : (l.map dDict).filterMap (dictF g) = l.filterMap g := by
  rw [List.filterMap_map]
  congr 1
  funext b
  exact dictF_d g b
theorem over_len {ks : List Str} {b : Book} (h : Over ks b) : b.length ≤ ks.length := by
  have := nodup_le h.nd h.sub
  rwa [List.length_map] at this
theorem books_in {S : List Str} {ks : List Str} (h : ∀ k ∈ ks, k ∈ S) : ∀ b ∈ booksA ks, BookIn S b := fun b hb => by
  obtain ⟨c, hc, rfl⟩ := List.mem_map.mp hb
  have o := over_all ks c hc
  refine ⟨sort_ok o.nd, fun k v hv => ?_⟩
  rw [sort_look o.nd] at hv
  refine ⟨h k (o.sub k (look_key.mp (by rw [hv]; rfl))), ?_⟩
  rcases o.val k v hv with rfl | rfl <;> exact ⟨by decide, by decide⟩
end AB
namespace AB
open PySem L2
/-! ### changes that commute -/
def Comm (c e : Chg) : Prop := ∀ f : Fn, stepF (stepF f c) e = stepF (stepF f e) c
theorem Comm.symm {c e : Chg} (h : Comm c e) : Comm e c := fun f => (h f).symm
theorem step_frame (f : Fn) (c : Chg) {j : Str} (h : j ∉ keysC c) : stepF f c j = f j := by
  cases c with
  | put k w => exact if_neg fun e => h (by rw [e]; exact List.mem_singleton.mpr rfl)
  | add k w => exact if_neg fun e => h (by rw [e]; exact List.mem_singleton.mpr rfl)
  | keep k w => exact if_neg fun e => h (by rw [e]; exact List.mem_singleton.mpr rfl)
  | drop k => exact if_neg fun e => h (by rw [e]; exact List.mem_singleton.mpr rfl)
  | move a b =>
    simp only [keysC, List.mem_cons, List.not_mem_nil, or_false, not_or] at h
    rw [stepF_move]
    cases f a with
    | none => rfl
    | some v =>
      show (if (f b).isSome then f else fun j => if j = b then some v else if j = a then none else f j) j = f j
      split
      · rfl
      · show (if j = b then some v else if j = a then none else f j) = f j
        rw [if_neg h.2, if_neg h.1]
theorem step_local {f g : Fn} (c : Chg) (h : ∀ k ∈ keysC c, f k = g k) : ∀ j ∈ keysC c, stepF f c j = stepF g c j := by
  intro j hj
  cases c with
  | put k w => rw [List.mem_singleton.mp hj]; show (if k = k then _ else _) = (if k = k then _ else _); rw [if_pos rfl, if_pos rfl]
  | add k w =>
    have hk := h k (List.mem_singleton.mpr rfl)
    rw [List.mem_singleton.mp hj]; show (if k = k then some (((f k).getD 0 + w) % 1000) else f k) = (if k = k then some (((g k).getD 0 + w) % 1000) else g k); rw [hk]
  | keep k w =>
    have hk := h k (List.mem_singleton.mpr rfl)
    rw [List.mem_singleton.mp hj]; show (if k = k then some ((f k).getD w) else f k) = (if k = k then some ((g k).getD w) else g k); rw [hk]
  | drop k => rw [List.mem_singleton.mp hj]; show (if k = k then _ else _) = (if k = k then _ else _); rw [if_pos rfl, if_pos rfl]
  | move a b =>
    have ha := h a List.mem_cons_self
    have hb := h b (List.mem_cons_of_mem _ List.mem_cons_self)
    have hj' := h j hj
    rw [stepF_move, stepF_move, ha, hb]
    cases g a with
    | none => exact hj'
    | some v =>
      show (if (g b).isSome then f else fun j => if j = b then some v else if j = a then none else f j) j = (if (g b).isSome then g else fun j => if j = b then some v else if j = a then none else g j) j
      split
      · exact hj'
      · show (if j = b then some v else if j = a then none else f j) = (if j = b then some v else if j = a then none else g j)
        rw [hj']
def disjB (c e : Chg) : Bool := (keysC c).all fun k => !decide (k ∈ keysC e)
theorem disj_iff {c e : Chg} : disjB c e = true ↔ ∀ k ∈ keysC c, k ∉ keysC e := by
  unfold disjB
  rw [List.all_eq_true]
  exact ⟨fun h k hk z => (by have := h k hk; rw [decide_eq_true z] at this; cases this), fun h k hk => (by rw [decide_eq_false (h k hk)]; rfl)⟩
theorem comm_disj {c e : Chg} (h : ∀ k ∈ keysC c, k ∉ keysC e) : Comm c e := fun f => by
  funext j
  by_cases h1 : j ∈ keysC c
  · rw [step_frame _ e (h j h1)]
    exact (step_local c (fun k hk => step_frame f e (h k hk)) j h1).symm
  · rw [step_frame _ c h1]
    by_cases h2 : j ∈ keysC e
    · exact step_local e (fun k hk => step_frame f c fun z => h k z hk) j h2
    · rw [step_frame _ e h2, step_frame _ e h2, step_frame _ c h1]
def sameB : Chg → Chg → Bool
  | .move a b, .move c d => decide (a = b) || decide (c = d) || (decide (a = c) && decide (b = d))
  | .move a b, _ => decide (a = b)
  | _, .move a b => decide (a = b)
  | .put _ w, .put _ v => decide (w = v)
  | .put _ _, .add _ v => decide (v = 0)
  | .add _ v, .put _ _ => decide (v = 0)
  | .put _ _, .keep _ _ => true
  | .keep _ _, .put _ _ => true
  | .add _ _, .add _ _ => true
  | .add _ _, .keep _ v => decide (v = 0)
  | .keep _ v, .add _ _ => decide (v = 0)
  | .keep _ w, .keep _ v => decide (w = v)
  | .drop _, .drop _ => true
  | _, _ => false
def commB (c e : Chg) : Bool := disjB c e || sameB c e
theorem move_self (f : Fn) (a : Str) : stepF f (.move a a) = f := by
  rw [stepF_move]
  cases q : f a with
  | none => rfl
  | some v => rfl
theorem comm_id {c e : Chg} (h : ∀ f, stepF f c = f) : Comm c e := fun f => by rw [h, h]
theorem key_same {c e : Chg} {k l : Str} (hc : keysC c = [k]) (he : keysC e = [l]) (h : disjB c e = false) : k = l := by
  by_cases e' : k = l
  · exact e'
  · have : disjB c e = true := disj_iff.mpr fun j hj => by
      rw [hc] at hj
      rw [he, List.mem_singleton.mp hj, List.mem_singleton]
      exact e'
    rw [h] at this; cases this
theorem comm_true {S : List Str} {c e : Chg} (hc : ChgIn S c) (he : ChgIn S e) (h : commB c e = true) : Comm c e := by
  unfold commB at h
  cases hd : disjB c e with
  | true => exact comm_disj (disj_iff.mp hd)
  | false =>
    rw [hd, Bool.false_or] at h
    cases c with
    | move a b =>
      cases e with
      | move x y =>
        simp only [sameB, Bool.or_eq_true, Bool.and_eq_true, decide_eq_true_eq] at h
        rcases h with (rfl | rfl) | ⟨rfl, rfl⟩
        · exact comm_id (move_self · a)
        · exact (comm_id (move_self · x)).symm
        · exact fun f => rfl
      | _ => simp only [sameB, decide_eq_true_eq] at h; subst h; exact comm_id (move_self · a)
    | put k w =>
      cases e with
      | move x y => simp only [sameB, decide_eq_true_eq] at h; subst h; exact (comm_id (move_self · x)).symm
      | put l v =>
        obtain rfl := key_same (k := k) (l := l) rfl rfl hd
        simp only [sameB, decide_eq_true_eq] at h; subst h; exact fun f => rfl
      | add l v =>
        obtain rfl := key_same (k := k) (l := l) rfl rfl hd
        simp only [sameB, decide_eq_true_eq] at h; subst h
        have hw := hc.2; unfold InW at hw
        intro f; funext j
        show (if j = k then some (((if k = k then some w else f k).getD 0 + 0) % 1000) else if j = k then some w else f j) = (if j = k then some w else if j = k then _ else f j)
        rw [if_pos rfl]
        by_cases e : j = k
        · rw [if_pos e, if_pos e]; show some ((w + 0) % 1000) = some w; rw [show (w + 0) % 1000 = w by omega]
        · rw [if_neg e, if_neg e, if_neg e, if_neg e]
      | keep l v =>
        obtain rfl := key_same (k := k) (l := l) rfl rfl hd
        intro f; funext j
        show (if j = k then some ((if k = k then some w else f k).getD v) else if j = k then some w else f j) = (if j = k then some w else if j = k then _ else f j)
        rw [if_pos rfl]
        by_cases e : j = k
        · rw [if_pos e, if_pos e]; rfl
        · rw [if_neg e, if_neg e, if_neg e, if_neg e]
      | drop l => simp [sameB] at h
    | add k w =>
      cases e with
      | move x y => simp only [sameB, decide_eq_true_eq] at h; subst h; exact (comm_id (move_self · x)).symm
      | put l v =>
        obtain rfl := key_same (k := k) (l := l) rfl rfl hd
        simp only [sameB, decide_eq_true_eq] at h; subst h
        have hw := he.2; unfold InW at hw
        intro f; funext j
        show (if j = k then some v else if j = k then _ else f j) = (if j = k then some (((if k = k then some v else f k).getD 0 + 0) % 1000) else if j = k then some v else f j)
        rw [if_pos rfl]
        by_cases e : j = k
        · rw [if_pos e, if_pos e]; show some v = some ((v + 0) % 1000); rw [show (v + 0) % 1000 = v by omega]
        · rw [if_neg e, if_neg e, if_neg e, if_neg e]
      | add l v =>
        obtain rfl := key_same (k := k) (l := l) rfl rfl hd
        intro f; funext j
        show (if j = k then some (((if k = k then some (((f k).getD 0 + w) % 1000) else f k).getD 0 + v) % 1000) else if j = k then _ else f j) = (if j = k then some (((if k = k then some (((f k).getD 0 + v) % 1000) else f k).getD 0 + w) % 1000) else if j = k then _ else f j)
        rw [if_pos rfl, if_pos rfl]
        by_cases e : j = k
        · rw [if_pos e, if_pos e]
          show some ((((f k).getD 0 + w) % 1000 + v) % 1000) = some ((((f k).getD 0 + v) % 1000 + w) % 1000)
          congr 1; omega
        · rw [if_neg e, if_neg e, if_neg e, if_neg e]
      | keep l v =>
        obtain rfl := key_same (k := k) (l := l) rfl rfl hd
        simp only [sameB, decide_eq_true_eq] at h; subst h
        intro f; funext j
        show (if j = k then some ((if k = k then some (((f k).getD 0 + w) % 1000) else f k).getD 0) else if j = k then _ else f j) = (if j = k then some (((if k = k then some ((f k).getD 0) else f k).getD 0 + w) % 1000) else if j = k then _ else f j)
        rw [if_pos rfl, if_pos rfl]
        by_cases e : j = k
        · rw [if_pos e, if_pos e]; rfl
        · rw [if_neg e, if_neg e, if_neg e, if_neg e]
      | drop l => simp [sameB] at h
    | keep k w =>
      cases e with
      | move x y => simp only [sameB, decide_eq_true_eq] at h; subst h; exact (comm_id (move_self · x)).symm
      | put l v =>
        obtain rfl := key_same (k := k) (l := l) rfl rfl hd
        intro f; funext j
        show (if j = k then some v else if j = k then _ else f j) = (if j = k then some ((if k = k then some v else f k).getD w) else if j = k then some v else f j)
        rw [if_pos rfl]
        by_cases e : j = k
        · rw [if_pos e, if_pos e]; rfl
        · rw [if_neg e, if_neg e, if_neg e, if_neg e]
      | add l v =>
        obtain rfl := key_same (k := k) (l := l) rfl rfl hd
        simp only [sameB, decide_eq_true_eq] at h; subst h
        intro f; funext j
        show (if j = k then some (((if k = k then some ((f k).getD 0) else f k).getD 0 + v) % 1000) else if j = k then _ else f j) = (if j = k then some ((if k = k then some (((f k).getD 0 + v) % 1000) else f k).getD 0) else if j = k then _ else f j)
        rw [if_pos rfl, if_pos rfl]
        by_cases e : j = k
        · rw [if_pos e, if_pos e]; rfl
        · rw [if_neg e, if_neg e, if_neg e, if_neg e]
      | keep l v =>
        obtain rfl := key_same (k := k) (l := l) rfl rfl hd
        simp only [sameB, decide_eq_true_eq] at h; subst h; exact fun f => rfl
      | drop l => simp [sameB] at h
    | drop k =>
      cases e with
      | move x y => simp only [sameB, decide_eq_true_eq] at h; subst h; exact (comm_id (move_self · x)).symm
      | drop l =>
        obtain rfl := key_same (k := k) (l := l) rfl rfl hd
        exact fun f => rfl
      | _ => simp [sameB] at h
/-- what is there, with worth 0 -/
def pres (P : List Str) : Fn := fun j => if j ∈ P then some 0 else none
end AB
namespace AB
open PySem L2
theorem sput (f : Fn) (k : Str) (w : Int) (j : Str) : stepF f (.put k w) j = if j = k then some w else f j := rfl
theorem sadd (f : Fn) (k : Str) (w : Int) (j : Str) : stepF f (.add k w) j = if j = k then some (((f k).getD 0 + w) % 1000) else f j := rfl
theorem skeep (f : Fn) (k : Str) (w : Int) (j : Str) : stepF f (.keep k w) j = if j = k then some ((f k).getD w) else f j := rfl
theorem sdrop (f : Fn) (k : Str) (j : Str) : stepF f (.drop k) j = if j = k then none else f j := rfl
theorem smv {f : Fn} {a b : Str} {v : Int} (h1 : f a = some v) (h2 : f b = none) (j : Str) : stepF f (.move a b) j = if j = b then some v else if j = a then none else f j := by
  rw [stepF_move, h1]
  show (if (f b).isSome then f else _) j = _
  rw [h2]; rfl
theorem smv_in {f : Fn} {a b : Str} {v : Int} (h2 : f b = some v) : stepF f (.move a b) = f := by
  rw [stepF_move]
  cases f a with
  | none => rfl
  | some u => show (if (f b).isSome then f else _) = f; rw [h2]; rfl
theorem smv_no {f : Fn} {a b : Str} (h1 : f a = none) : stepF f (.move a b) = f := by
  rw [stepF_move, h1]
theorem pres_y {P : List Str} {j : Str} (h : j ∈ P) : pres P j = some 0 := if_pos h
theorem pres_n {P : List Str} {j : Str} (h : j ∉ P) : pres P j = none := if_neg h
/-- they differ on a book with some of their keys -/
def Differ (c e : Chg) : Prop := ∃ P : List Str, (∀ k ∈ P, k ∈ keysC c ++ keysC e) ∧ ∃ j, stepF (stepF (pres P) c) e j ≠ stepF (stepF (pres P) e) c j
theorem Differ.symm {c e : Chg} (h : Differ c e) : Differ e c := by
  obtain ⟨P, h1, j, h2⟩ := h
  exact ⟨P, fun k hk => by rw [List.mem_append]; exact (List.mem_append.mp (h1 k hk)).symm, j, fun z => h2 z.symm⟩
theorem differ_moveA {c : Chg} {a b : Str} (hk : keysC c = [a]) (hab : a ≠ b) : Differ c (.move a b) := by
  have hba : b ≠ a := fun z => hab z.symm
  have nil : ∀ j, pres [] j = none := fun j => pres_n (by simp)
  have pa : pres [a] a = some 0 := pres_y (by simp)
  have pb : pres [a] b = none := pres_n (by simp [hba])
  have sub : ∀ j ∈ [a], j ∈ keysC c ++ keysC (.move a b) := fun j hj => by rw [List.mem_singleton.mp hj]; exact List.mem_append_right _ List.mem_cons_self
  cases c with
  | move x y => cases hk
  | put k w =>
    obtain rfl : k = a := (List.cons.inj hk).1
    refine ⟨[], (fun _ h => nomatch h), k, ?_⟩
    rw [smv (v := w) (by rw [sput, if_pos rfl]) (by rw [sput, if_neg hba]; exact nil _), if_neg hab, if_pos rfl, smv_no (nil _), sput, if_pos rfl]
    exact fun z => nomatch z
  | add k w =>
    obtain rfl : k = a := (List.cons.inj hk).1
    refine ⟨[], (fun _ h => nomatch h), k, ?_⟩
    rw [smv (v := (0 + w) % 1000) (by rw [sadd, if_pos rfl, nil]; rfl) (by rw [sadd, if_neg hba]; exact nil _), if_neg hab, if_pos rfl, smv_no (nil _), sadd, if_pos rfl]
    exact fun z => nomatch z
  | keep k w =>
    obtain rfl : k = a := (List.cons.inj hk).1
    refine ⟨[], (fun _ h => nomatch h), k, ?_⟩
    rw [smv (v := w) (by rw [skeep, if_pos rfl, nil]; rfl) (by rw [skeep, if_neg hba]; exact nil _), if_neg hab, if_pos rfl, smv_no (nil _), skeep, if_pos rfl]
    exact fun z => nomatch z
  | drop k =>
    obtain rfl : k = a := (List.cons.inj hk).1
    refine ⟨[k], sub, b, ?_⟩
    rw [smv_no (by rw [sdrop, if_pos rfl]), sdrop, if_neg hba, pb, sdrop, if_neg hba, smv pa pb, if_pos rfl]
    exact fun z => nomatch z
theorem differ_moveB {c : Chg} {a b : Str} (hk : keysC c = [b]) (hab : a ≠ b) : Differ c (.move a b) := by
  have hba : b ≠ a := fun z => hab z.symm
  have pa : pres [a] a = some 0 := pres_y (by simp)
  have pb : pres [a] b = none := pres_n (by simp [hba])
  have sub : ∀ j ∈ [a], j ∈ keysC c ++ keysC (.move a b) := fun j hj => by rw [List.mem_singleton.mp hj]; exact List.mem_append_right _ List.mem_cons_self
  cases c with
  | move x y => cases hk
  | put k w =>
    obtain rfl : k = b := (List.cons.inj hk).1
    refine ⟨[a], sub, a, ?_⟩
    rw [smv_in (v := w) (by rw [sput, if_pos rfl]), sput, if_neg hab, pa, sput, if_neg hab, smv pa pb, if_neg hab, if_pos rfl]
    exact fun z => nomatch z
  | add k w =>
    obtain rfl : k = b := (List.cons.inj hk).1
    refine ⟨[a], sub, a, ?_⟩
    rw [smv_in (v := (0 + w) % 1000) (by rw [sadd, if_pos rfl, pb]; rfl), sadd, if_neg hab, pa, sadd, if_neg hab, smv pa pb, if_neg hab, if_pos rfl]
    exact fun z => nomatch z
  | keep k w =>
    obtain rfl : k = b := (List.cons.inj hk).1
    refine ⟨[a], sub, a, ?_⟩
    rw [smv_in (v := w) (by rw [skeep, if_pos rfl, pb]; rfl), skeep, if_neg hab, pa, skeep, if_neg hab, smv pa pb, if_neg hab, if_pos rfl]
    exact fun z => nomatch z
  | drop k =>
    obtain rfl : k = b := (List.cons.inj hk).1
    refine ⟨[a], sub, k, ?_⟩
    rw [smv (v := 0) (by rw [sdrop, if_neg hab]; exact pa) (by rw [sdrop, if_pos rfl]), if_pos rfl, sdrop, if_pos rfl]
    exact fun z => nomatch z
theorem differ_move {c : Chg} {k a b : Str} (hk : keysC c = [k]) (hab : a ≠ b) (hin : k = a ∨ k = b) : Differ c (.move a b) := by
  rcases hin with h | h
  · exact differ_moveA (by rw [hk, h]) hab
  · exact differ_moveB (by rw [hk, h]) hab
theorem differ_moves {a b x y : Str} (hab : a ≠ b) (hxy : x ≠ y) (hne : ¬ (a = x ∧ b = y)) (hin : a = x ∨ b = y ∨ b = x ∨ a = y) : Differ (.move a b) (.move x y) := by
  have hba : b ≠ a := fun z => hab z.symm
  have hyx : y ≠ x := fun z => hxy z.symm
  have sub : ∀ P : List Str, (∀ j ∈ P, j = a ∨ j = b ∨ j = x ∨ j = y) → ∀ j ∈ P, j ∈ keysC (.move a b) ++ keysC (.move x y) := fun P h j hj => by
    simp only [keysC, List.mem_append, List.mem_cons, List.not_mem_nil, or_false]
    rcases h j hj with h | h | h | h
    · exact .inl (.inl h)
    · exact .inl (.inr h)
    · exact .inr (.inl h)
    · exact .inr (.inr h)
  by_cases h1 : a = x
  · subst h1
    have hby : b ≠ y := fun z => hne ⟨rfl, z⟩
    have hyb : y ≠ b := fun z => hby z.symm
    have pa : pres [a] a = some 0 := pres_y (by simp)
    have pb : pres [a] b = none := pres_n (by simp [hba])
    have py : pres [a] y = none := pres_n (by simp [hyx])
    refine ⟨[a], sub _ fun j hj => .inl (List.mem_singleton.mp hj), b, ?_⟩
    rw [smv_no (by rw [smv pa pb, if_neg hab, if_pos rfl]), smv pa pb, if_pos rfl, smv_no (by rw [smv pa py, if_neg hxy, if_pos rfl]), smv pa py, if_neg hby, if_neg hba, pb]
    exact fun z => nomatch z
  · have hxa : x ≠ a := fun z => h1 z.symm
    by_cases h2 : b = y
    · subst h2
      have pa : pres [a, x] a = some 0 := pres_y (by simp)
      have px : pres [a, x] x = some 0 := pres_y (by simp)
      have pb : pres [a, x] b = none := pres_n (by simp [hba, hyx])
      refine ⟨[a, x], sub _ fun j hj => ?_, x, ?_⟩
      · simp only [List.mem_cons, List.not_mem_nil, or_false] at hj
        rcases hj with h | h
        · exact .inl h
        · exact .inr (.inr (.inl h))
      · rw [smv_in (v := 0) (by rw [smv pa pb, if_pos rfl]), smv pa pb, if_neg hxy, if_neg hxa, px, smv_in (v := 0) (by rw [smv px pb, if_pos rfl]), smv px pb, if_neg hxy, if_pos rfl]
        exact fun z => nomatch z
    · have hyb : y ≠ b := fun z => h2 z.symm
      by_cases h3 : b = x
      · subst h3
        by_cases h4 : a = y
        · subst h4
          have pa : pres [a] a = some 0 := pres_y (by simp)
          have pb : pres [a] b = none := pres_n (by simp [hba])
          refine ⟨[a], sub _ fun j hj => .inl (List.mem_singleton.mp hj), a, ?_⟩
          rw [smv (v := 0) (by rw [smv pa pb, if_pos rfl]) (by rw [smv pa pb, if_neg hab, if_pos rfl]), if_pos rfl, smv_no pb, smv pa pb, if_neg hab, if_pos rfl]
          exact fun z => nomatch z
        · have hya : y ≠ a := fun z => h4 z.symm
          have pa : pres [a, b] a = some 0 := pres_y (by simp)
          have pb : pres [a, b] b = some 0 := pres_y (by simp)
          have py : pres [a, b] y = none := pres_n (by simp [hya, hyb])
          refine ⟨[a, b], sub _ fun j hj => ?_, b, ?_⟩
          · simp only [List.mem_cons, List.not_mem_nil, or_false] at hj
            rcases hj with h | h
            · exact .inl h
            · exact .inr (.inl h)
          · rw [smv_in pb, smv pb py, if_neg hxy, if_pos rfl, smv (v := 0) (by rw [smv pb py, if_neg h4, if_neg hab]; exact pa) (by rw [smv pb py, if_neg hxy, if_pos rfl]), if_pos rfl]
            exact fun z => nomatch z
      · have hay : a = y := by
          rcases hin with h | h | h | h
          · exact absurd h h1
          · exact absurd h h2
          · exact absurd h h3
          · exact h
        subst hay
        have hbx : b ≠ x := h3
        have pa : pres [a, x] a = some 0 := pres_y (by simp)
        have px : pres [a, x] x = some 0 := pres_y (by simp)
        have pb : pres [a, x] b = none := pres_n (by simp [hba, hbx])
        refine ⟨[a, x], sub _ fun j hj => ?_, a, ?_⟩
        · simp only [List.mem_cons, List.not_mem_nil, or_false] at hj
          rcases hj with h | h
          · exact .inl h
          · exact .inr (.inr (.inl h))
        · rw [smv (v := 0) (by rw [smv pa pb, if_neg fun z => hbx z.symm, if_neg hxa]; exact px) (by rw [smv pa pb, if_neg hab, if_pos rfl]), if_pos rfl, smv_in pa, smv pa pb, if_neg hab, if_pos rfl]
          exact fun z => nomatch z
theorem not_disj {c e : Chg} (h : disjB c e = false) : ∃ k, k ∈ keysC c ∧ k ∈ keysC e := by
  unfold disjB at h
  rw [List.all_eq_false] at h
  obtain ⟨k, h1, h2⟩ := h
  refine ⟨k, h1, ?_⟩
  simpa using h2
theorem comm_false {S : List Str} {c e : Chg} (hc : ChgIn S c) (he : ChgIn S e) (h : commB c e = false) : Differ c e := by
  unfold commB at h
  rw [Bool.or_eq_false_iff] at h
  obtain ⟨hd, h⟩ := h
  have nil : ∀ j, pres [] j = none := fun j => pres_n (by simp)
  have one : ∀ {k : Str}, (∃ j, stepF (stepF (pres []) c) e j ≠ stepF (stepF (pres []) e) c j) → Differ c e := fun h => ⟨[], (fun _ h => nomatch h), h⟩
  obtain ⟨k0, i1, i2⟩ := not_disj hd
  by_cases hm : ∃ a b, e = .move a b
  · obtain ⟨a, b, rfl⟩ := hm
    by_cases hm2 : ∃ x y, c = .move x y
    · obtain ⟨x, y, rfl⟩ := hm2
      simp only [sameB, Bool.or_eq_false_iff, Bool.and_eq_false_iff, decide_eq_false_iff_not] at h
      refine differ_moves h.1.1 h.1.2 (fun z => h.2.elim (fun q => q z.1) fun q => q z.2) ?_
      simp only [keysC, List.mem_cons, List.not_mem_nil, or_false] at i1 i2
      rcases i1 with rfl | rfl <;> rcases i2 with rfl | rfl
      · exact .inl rfl
      · exact .inr (.inr (.inr rfl))
      · exact .inr (.inr (.inl rfl))
      · exact .inr (.inl rfl)
    · have hk : keysC c = [keyC c] := by cases c <;> first | rfl | exact absurd ⟨_, _, rfl⟩ hm2
      have hs : a ≠ b := by
        cases c <;> first | (exact of_decide_eq_false h) | exact absurd ⟨_, _, rfl⟩ hm2
      rw [hk, List.mem_singleton] at i1
      subst i1
      simp only [keysC, List.mem_cons, List.not_mem_nil, or_false] at i2
      exact differ_move hk hs i2
  · by_cases hm2 : ∃ x y, c = .move x y
    · obtain ⟨a, b, rfl⟩ := hm2
      have hk : keysC e = [keyC e] := by cases e <;> first | rfl | exact absurd ⟨_, _, rfl⟩ hm
      have hs : a ≠ b := by
        cases e <;> first | (exact of_decide_eq_false h) | exact absurd ⟨_, _, rfl⟩ hm
      rw [hk, List.mem_singleton] at i2
      subst i2
      simp only [keysC, List.mem_cons, List.not_mem_nil, or_false] at i1
      exact (differ_move hk hs i1).symm
    · have hk : keysC c = [keyC c] := by cases c <;> first | rfl | exact absurd ⟨_, _, rfl⟩ hm2
      have hk2 : keysC e = [keyC e] := by cases e <;> first | rfl | exact absurd ⟨_, _, rfl⟩ hm
      have ek := key_same hk hk2 hd
      refine one (k := k0) ⟨keyC c, ?_⟩
      cases c <;> cases e <;> first | exact absurd ⟨_, _, rfl⟩ hm | exact absurd ⟨_, _, rfl⟩ hm2 | skip
      all_goals (simp only [keyC] at ek; subst ek; simp only [keyC]; try simp only [sameB, decide_eq_false_iff_not] at h)
      all_goals first
        | (cases h; done)
        | (simp only [sput, sadd, skeep, sdrop, if_pos, nil]; intro z; (try have hw := hc.2); (try have hv := he.2); (try unfold InW at hw); (try unfold InW at hv); simp only [Option.getD_some, Option.getD_none, Option.some.injEq, reduceCtorEq] at z; omega)
        | (simp only [sput, sadd, skeep, sdrop, if_pos, nil]; intro z; cases z; done)
        | skip
theorem pres_in {P : List Str} : ∀ ks : List Str, ∃ b ∈ dictsA ks, ∀ j, lookA b j = if j ∈ ks ∧ j ∈ P then some 0 else none := by
  have : ∀ n, ∀ ks : List Str, ks.length = n → ∃ b ∈ dictsA ks, ∀ j, lookA b j = if j ∈ ks ∧ j ∈ P then some 0 else none := by
    intro n
    induction n with
    | zero =>
      intro ks h
      have := List.length_eq_zero_iff.mp h
      subst this
      exact ⟨[], List.mem_singleton.mpr rfl, fun j => by simp [lookA_nil]⟩
    | succ n ih =>
      intro ks h
      obtain ⟨k, e⟩ : ∃ k, ks = ks.dropLast ++ [k] := ⟨ks.getLast (by intro z; rw [z] at h; cases h), (List.dropLast_concat_getLast _).symm⟩
      obtain ⟨b, hb, hl⟩ := ih ks.dropLast (by rw [List.length_dropLast]; omega)
      rw [e, dicts_app]
      generalize ks.dropLast = l at hb hl ⊢
      by_cases hk : k ∈ P
      · refine ⟨putA b k 0, List.mem_flatMap.mpr ⟨b, hb, by simp [extD]⟩, fun j => ?_⟩
        rw [put_look, hl]
        by_cases z : j = k
        · subst z; simp [hk]
        · simp [z]
      · refine ⟨b, List.mem_flatMap.mpr ⟨b, hb, by simp [extD]⟩, fun j => ?_⟩
        rw [hl]
        by_cases z : j = k
        · subst z; simp [hk]
        · simp [z]
  exact fun ks => this ks.length ks rfl
theorem pres_book {P ks : List Str} (h : ∀ k ∈ P, k ∈ ks) : ∃ b ∈ booksA ks, lookA b = pres P := by
  obtain ⟨b, hb, hl⟩ := pres_in (P := P) ks
  refine ⟨sortB b, List.mem_map.mpr ⟨b, hb, rfl⟩, funext fun j => ?_⟩
  rw [sort_look (over_all ks b hb).nd, hl]
  unfold pres
  by_cases z : j ∈ P
  · rw [if_pos ⟨h j z, z⟩, if_pos z]
  · rw [if_neg fun q => z q.2, if_neg z]
theorem comm_done {c e : Chg} (h : Comm c e) {b : Book} (hb : KeysND b) : doneA b [c, e] = doneA b [e, c] := done_ext hb hb fun k => congrFun (h (lookA b)) k
theorem apart_eq {S : List Str} {c e : Chg} (hc : ChgIn S c) (he : ChgIn S e) : apartA c e = commB c e := by
  have kin : ∀ k ∈ keySet (keysC c ++ keysC e), k ∈ S := fun k hk => by
    rw [keySet_mem, List.mem_append] at hk
    exact hk.elim (keysC_in hc k) (keysC_in he k)
  have bin := books_in kin
  unfold apartA witA
  cases h : commB c e with
  | true =>
    have hC := comm_true hc he h
    rw [List.find?_eq_none.mpr fun b hb => ?_]
    · rfl
    · rw [decide_eq_true (comm_done hC (bin b hb).nd)]; simp
  | false =>
    obtain ⟨P, h1, j, h2⟩ := comm_false hc he h
    obtain ⟨b, hb, hl⟩ := pres_book (P := P) (ks := keySet (keysC c ++ keysC e)) fun k hk => by rw [keySet_mem]; exact h1 k hk
    cases q : (booksA (keySet (keysC c ++ keysC e))).find? fun b => !decide (doneA b [c, e] = doneA b [e, c]) with
    | some _ => rfl
    | none =>
      have z := List.find?_eq_none.mp q b hb
      have z : doneA b [c, e] = doneA b [e, c] := by simpa using z
      have z2 := congrArg lookA z
      rw [done_look (bin b hb).nd, done_look (bin b hb).nd, hl] at z2
      exact absurd (congrFun z2 j) h2
theorem apart_iff {S : List Str} {c e : Chg} (hc : ChgIn S c) (he : ChgIn S e) : apartA c e = true ↔ Comm c e := by
  rw [apart_eq hc he]
  refine ⟨comm_true hc he, fun hC => ?_⟩
  cases h : commB c e with
  | true => rfl
  | false =>
    obtain ⟨P, _, j, h2⟩ := comm_false hc he h
    exact absurd (congrFun (hC (pres P)) j) h2
theorem wit_some {S : List Str} {c e : Chg} {b : Book} (hc : ChgIn S c) (he : ChgIn S e) (h : witA c e = some b) : BookIn S b ∧ doneA b [c, e] ≠ doneA b [e, c] := by
  have kin : ∀ k ∈ keySet (keysC c ++ keysC e), k ∈ S := fun k hk => by
    rw [keySet_mem, List.mem_append] at hk
    exact hk.elim (keysC_in hc k) (keysC_in he k)
  unfold witA at h
  refine ⟨books_in kin b (List.mem_of_find?_eq_some h), ?_⟩
  have := List.find?_some h
  simpa using this
theorem apart_comm {S : List Str} {c e : Chg} (hc : ChgIn S c) (he : ChgIn S e) : apartA c e = apartA e c := by
  rw [Bool.eq_iff_iff, apart_iff hc he, apart_iff he hc]
  exact ⟨Comm.symm, Comm.symm⟩
end AB
namespace AB
open PySem PySem.Spec PyProof.Rows L2
section
variable {X : Cx} {M : Mem} {e a b o t : Expr} {ρ : Env} {pos p p1 apos cpos pos1 lpos bpos : Pos} {ps qs : Book} {k : Str} {w : Int}
theorem kv_look {ps : Book} (p : Key × V) (hp : p ∈ kvS ps) : ∃ q ∈ ps, p = (Sum.inr q.1, V.int q.2) := by
  obtain ⟨q, hq, e⟩ := List.mem_map.mp hp
  exact ⟨q, hq, e.symm⟩
theorem val_kvS (ps : Book) (k : Str) : valV (kvS ps) (Sum.inr k) = (lookA ps k).map V.int := by
  induction ps with
  | nil => rfl
  | cons p ps ih =>
    by_cases e : p.1 = k
    · rw [lookA_pos e]
      exact valV_pos (p := (Sum.inr p.1, V.int p.2)) (by rw [e])
    · rw [lookA_neg e, ← ih]
      exact valV_neg (p := (Sum.inr p.1, V.int p.2)) fun z => e (Sum.inr.inj z)
/-- dict(..) != dict(..), both alike -/
theorem ptd_neDD (hu : X.A.units < cLine) (ha : PN X a ρ M (dB ps)) (hb : PN X b ρ M (dB qs)) (hl : ps.length = qs.length) (hq : ∀ p ∈ ps, lookA qs p.1 = some p.2) : PTD X (.Compare a [.NotEq] [b] pos) ρ M false :=
  ptd_of (pt_cmpR (op_ne_dictA hu) pe_w pe_w (nobehind _ (by decide) (by decide))) fun Hs H σ Q r q kk => ha.run Hs H σ _ r q fun x o1 Hs1 H1 g1 n1 n1' e1 e2 => hb.run Hs1 H1 σ _ (r.grow g1) (q.mono g1.s) fun y o2 Hs2 H2 g2 n2 n2' e3 e4 => by
    obtain ⟨vs, rfl, rel⟩ := rep_dct e2
    obtain ⟨ws, rfl, rel2⟩ := rep_dct e4
    have ev := rep_kvS (vs := []) rel
    have ew := rep_kvS (vs := []) rel2
    subst ev ew
    refine ⟨x, y, _, _, rfl, rfl, g2.h _ _ e1, e3, by unfold kvS; rw [List.length_map, List.length_map]; exact hl, fun p hp => ?_, false, rfl, kk Hs2 H2 (g1.trans g2)⟩
    obtain ⟨z, hz, rfl⟩ := kv_look p hp
    exact ⟨by rw [val_kvS, hq z hz]; rfl, rfl⟩
/-- dict(list(o.items()) + [t]) -/
theorem pn_dictItems (hc : X.calm = true) (hg : Gl X "dict") (hm : X.mg "dict" = none) (hg2 : Gl X "list") (hm2 : X.mg "list" = none) (ho : PO' X o ρ M (dB ps)) (ht : PD X t ρ M (dPair (k, w))) (hz : ps.length ≤ 1000)
    (hbase : attributeBase o "items" X.env (eval o X.env) = eval o X.env := by rfl) (hline : (apos.endLine == cpos.line) = true := by rfl)
    (hs : starEach [.Call (.Attribute o "items" apos) [] [] cpos] X.env = (false, eval (.Call (.Attribute o "items" apos) [] [] cpos) X.env) :: starEach [] X.env := by rfl)
    (hs1 : starEach [t] X.env = (false, eval t X.env) :: starEach [] X.env := by rfl)
    (hs2 : starEach [.BinOp (.Call (.Name "list" p1) [.Call (.Attribute o "items" apos) [] [] cpos] [] pos1) .Add (.List [t] lpos) bpos] X.env = (false, eval (.BinOp (.Call (.Name "list" p1) [.Call (.Attribute o "items" apos) [] [] cpos] [] pos1) .Add (.List [t] lpos) bpos) X.env) :: starEach [] X.env := by rfl) :
    PN X (.Call (.Name "dict" p) [.BinOp (.Call (.Name "list" p1) [.Call (.Attribute o "items" apos) [] [] cpos] [] pos1) .Add (.List [t] lpos) bpos] [] pos) ρ M (dB (mergeA (ps ++ [(k, w)]))) :=
  ⟨fun Hs H σ Q r q kk => PE.w (pe_callTy (call_dictP hc) hg hm boot_dict (pa_cons (pe_op op_cat (LiI.pe_listItems hc pe_w hg2 hm2 boot_list hbase hline hs) (pe_lst (pa_cons pe_w pa_nil hs1))) pa_nil hs2) (by decide) (by decide) hs2) (ho.run Hs H σ _ r q fun x o1 Hs1 H1 g1 e1 e2 => by
    obtain ⟨vs, rfl, rel⟩ := rep_dct e2
    have ev := rep_kvS (vs := []) rel
    subst ev
    refine ⟨x, _, rfl, e1, fun H2 l ts kp hl hts hlt hl2 hp2 => ?_⟩
    have g2 : Grow Hs1 H1 Hs1 H2 := ⟨kp, Same.refl _, g1.i.trans kp, fun _ h _ => h⟩
    have g12 := g1.trans g2
    refine ht.run Hs1 H2 σ _ (r.grow g12) (q.mono g12.s) fun v Hs3 H3 g3 p3 => ?_
    refine ⟨by rw [sizeLine_eq]; show 1 ≤ _; decide, fun l2 hl2' => ?_⟩
    have lt : ts.length = ps.length := by have := Paired.length hp2; unfold kvS at this; rwa [List.length_map] at this
    have nl : l ≠ l2 := fun z => by have := g3.h _ _ hl2; rw [z, hl2'] at this; cases this
    refine ⟨l, l2, ts.map V.ref, [v], rfl, rfl, by rw [upd_ne nl]; exact g3.h _ _ hl2, upd_same, by rw [List.length_map, lt, sizeLine_eq]; show ps.length + 1 ≤ _; omega, fun l3 hl3 => ?_⟩
    obtain ⟨tv, us, rfl, h3, h4⟩ := dp_tup p3
    have eus : us = [V.str k, V.int w] := by
      cases h4 with
      | cons a1 a2 => cases a2 with
        | cons a2 a3 => cases a3; rw [dp_str a1, dp_int a2]
    subst eus
    let G := upd (upd H3 l2 (.lst [V.ref tv])) l3 (.lst (ts.map V.ref ++ [V.ref tv]))
    have gA : Grow Hs3 H3 Hs3 (upd H3 l2 (.lst [V.ref tv])) := .newH g3.i hl2'
    have gB : Grow Hs3 (upd H3 l2 (.lst [V.ref tv])) Hs3 G := .newH gA.i hl3
    have gG : Grow Hs1 H2 Hs3 G := (g3.trans gA).trans gB
    have pr : Paired (fun p kv => SqT X.K G p [kV kv.1, kv.2]) (ts ++ [tv]) (kvS (ps ++ [(k, w)])) := by
      unfold kvS
      rw [List.map_append]
      refine paired_app (Paired.mapP hp2 fun t' kv h => .inl (.inl (gG.h _ _ h))) (.cons ?_ .nil)
      exact (h3.mono gB.i).sq
    refine ⟨l3, ts ++ [tv], kvS (ps ++ [(k, w)]), rfl, .of (by show upd _ l3 _ l3 = _; rw [upd_same, List.map_append]; rfl), pr, fun l4 hl4 => ?_⟩
    have gC : Grow Hs3 G Hs3 (upd G l4 (.dK (mergeK [] (kvS (ps ++ [(k, w)]))))) := .newH gB.i hl4
    have gg := (g12.trans gG).trans gC
    have n0 : H l4 = none := by
      cases q : H l4 with
      | none => rfl
      | some o => have z := (g12.trans gG).h l4 o q; have hl4' : G l4 = none := hl4; rw [hl4'] at z; cases z
    exact kk l4 _ _ _ gg n0 (gB.i.free hl4) upd_same (dct_rep (merge_rel kvS_rep .nil)))⟩
theorem boot_int' : bootBuiltins "int" = some (.type "int") := by decide +kernel
/-- int(b) -/
theorem pd_intB {c : Bool} (hg : Gl X "int") (hm : X.mg "int" = none) (ha : PD X e ρ M (.bool c)) (hs : starEach [e] X.env = (false, eval e X.env) :: starEach [] X.env := by rfl) : PD X (.Call (.Name "int" p) [e] [] pos) ρ M (.int (if c then 1 else 0)) :=
  pd_callTy call_int1 (fun Hs H vs Q s p k => by
    cases p with
    | cons h1 h2 =>
      cases h2
      rw [dp_bl h1]
      exact .inr ⟨c, rfl, k _ Hs H (.refl s) (.int _)⟩) hg hm boot_int' (pds_cons ha pds_nil hs) (by decide) (by decide) hs
end
theorem step_mv {g : Fn} {a b : Str} {v : Int} (h1 : g a = some v) (h2 : g b = none) : stepF g (.move a b) = fun j => if j = b then some v else if j = a then none else g j := by
  rw [stepF_move, h1]
  show (if (g b).isSome then g else _) = _
  rw [h2]; rfl
theorem put_done {b : Book} (hb : KeysND b) (k : Str) (w : Int) : doneA b [.put k w] = sortB (putA b k w) := by unfold doneA; rw [merge_id hb]; rfl
theorem merge_app {b : Book} (hb : KeysND b) (k : Str) (w : Int) : mergeA (b ++ [(k, w)]) = putA b k w := by
  unfold mergeA
  rw [List.foldl_append]
  have := merge_id hb
  unfold mergeA at this
  rw [this]; rfl
theorem drop_len_eq : ∀ {b : Book}, KeysND b → ∀ k, (dropA b k).length + (if (lookA b k).isSome then 1 else 0) = b.length
  | [], _, k => rfl
  | p :: b, h, k => by
    unfold KeysND at h
    rw [List.map_cons, List.nodup_cons] at h
    have ih := drop_len_eq (b := b) h.2 k
    unfold dropA at ih ⊢
    by_cases e : p.1 = k
    · have : lookA b k = none := look_none.mpr (by rw [← e]; exact h.1)
      rw [this] at ih
      rw [List.filter_cons, if_neg (by simp [e]), lookA_pos e]
      show _ + 1 = _
      rw [List.length_cons]
      simp only [Option.isSome_none] at ih
      have ih : (List.filter (fun kv => decide (kv.1 ≠ k)) b).length + 0 = b.length := ih
      omega
    · rw [List.filter_cons, if_pos (by simp [e]), lookA_neg e, List.length_cons, List.length_cons]; omega
end AB
namespace AB
open PySem L2
section
variable {X : Cx} {M : Mem} {e a b : Expr} {ρ : Env} {pos : Pos} {u v : Bool} {d x y : D}
/-! ### truths -/
theorem eqv_bool (u v : Bool) : PyData.eqv (.bool u) (.bool v) = (u == v) := by simp [PyData.eqv]
theorem pd_eqB (hu : X.A.units + 64 < cLine) (ha : PD X a ρ M (.bool u)) (hb : PD X b ρ M (.bool v)) : PD X (.Compare a [.Eq] [b] pos) ρ M (.bool (u == v)) := PD.eq (pd_eq hu ha hb rfl rfl) (by rw [eqv_bool])
theorem ptd_eqB (hu : X.A.units + 64 < cLine) (ha : PD X a ρ M (.bool u)) (hb : PD X b ρ M (.bool v)) : PTD X (.Compare a [.Eq] [b] pos) ρ M (u == v) := PTD.eq (ptd_eq hu ha hb rfl rfl) (by rw [eqv_bool])
theorem ptd_neB (hu : X.A.units + 64 < cLine) (ha : PD X a ρ M (.bool u)) (hb : PD X b ρ M (.bool v)) : PTD X (.Compare a [.NotEq] [b] pos) ρ M (!(u == v)) := PTD.eq (ptd_ne hu ha hb rfl rfl) (by rw [eqv_bool])
theorem pd_neB (hu : X.A.units + 64 < cLine) (ha : PD X a ρ M (.bool u)) (hb : PD X b ρ M (.bool v)) : PD X (.Compare a [.NotEq] [b] pos) ρ M (.bool (!(u == v))) := PD.eq (pd_ne hu ha hb rfl rfl) (by rw [eqv_bool])
theorem rd_isB {K : Fg} : RD K rIsB (.bool u) (.bool v) (.bool (decide (u = v))) := fun Hs H w1 w2 Q i p q k => ⟨u, v, dp_bl p, dp_bl q, k _ Hs H (.refl i) (.bl _)⟩
theorem rd_notB {K : Fg} : RD K rNotB (.bool u) (.bool v) (.bool (!decide (u = v))) := fun Hs H w1 w2 Q i p q k => ⟨u, v, dp_bl p, dp_bl q, k _ Hs H (.refl i) (.bl _)⟩
theorem ptd_IsNotTrue (ha : PD X a ρ M (.bool u)) {j : Nat} {p : Pos} : PTD X (.Compare a [.IsNot] [.Constant (.bool true) j p] pos) ρ M (!u) := PTD.eq (ptd_cmp op_notBl rd_notB ha pd_bl) (by cases u <;> rfl)
theorem ptd_IsTrue (ha : PD X a ρ M (.bool u)) {j : Nat} {p : Pos} : PTD X (.Compare a [.Is] [.Constant (.bool true) j p] pos) ρ M u := PTD.eq (ptd_cmp op_isBl rd_isB ha pd_bl) (by cases u <;> rfl)
theorem pd_IsTrue (ha : PD X a ρ M (.bool u)) {j : Nat} {p : Pos} : PD X (.Compare a [.Is] [.Constant (.bool true) j p] pos) ρ M (.bool u) := PD.eq (pd_cmp op_isBl rd_isB ha pd_bl) (by cases u <;> rfl)
theorem pd_notN (ha : PD X a ρ M x) (hb : PD X b ρ M .none) : PD X (.Compare a [.IsNot] [b] pos) ρ M (.bool (!isNone x)) := pd_cmp op_notN rd_notN ha hb
end
/-! ### a word on data, by what it is the data of -/
noncomputable def decF {α : Type} (f : α → D) (g : α → Option D) (d : D) : Option D := open Classical in if h : ∃ x, f x = d then g (Classical.choose h) else none
theorem decF_d {α : Type} {f : α → D} (hf : ∀ x y, f x = f y → x = y) (g : α → Option D) (x : α) : decF f g (f x) = g x := by
  unfold decF
  have h : ∃ y, f y = f x := ⟨x, rfl⟩
  rw [dif_pos h, hf _ _ (Classical.choose_spec h)]
theorem fm_dec {α : Type} {f : α → D} (hf : ∀ x y, f x = f y → x = y) (g : α → Option D) (l : List α) : (l.map f).filterMap (decF f g) = l.filterMap g := by
  rw [List.filterMap_map]
  congr 1
  funext x
  exact decF_d hf g x
theorem fm_if {α : Type} (f : α → D) (p : α → Bool) (l : List α) : l.filterMap (fun x => if p x = true then some (f x) else none) = (l.filter p).map f := by
  induction l with
  | nil => rfl
  | cons k l ih =>
    rw [List.filterMap_cons, List.filter_cons]
    cases p k with
    | true => show _ :: _ = _; rw [ih]; rfl
    | false => exact ih
theorem if_some {α : Type} {p : Bool} {x : α} : p = (if p = true then some x else none).isSome := by cases p <;> rfl
theorem if_some' {α : Type} {p : Bool} {x z : α} (h : (if p = true then some x else none) = some z) : p = true ∧ x = z := by cases p <;> simp at h; exact ⟨rfl, h⟩
theorem str_inj (x y : Str) (h : PyData.str x = .str y) : x = y := by injection h
theorem book_inj (x y : Book) (h : dBook x = dBook y) : x = y := dBook_inj h
theorem row_inj (x y : List Chg) (h : dRow x = dRow y) : x = y := dRow_inj h
theorem chg_inj (x y : Chg) (h : dChg x = dChg y) : x = y := dChg_inj h
/-! ### numbers that are walked, places in lists that are made -/
theorem range_some {lo : Int} {n i : Nat} {d : D} (h : (rangeD lo n)[i]? = some d) : i < n ∧ d = .int (lo + (i : Nat)) := by
  have hi : i < n := by
    have := (List.getElem?_eq_some_iff.mp h).1
    rwa [rangeD_len] at this
  rw [rangeD_get hi] at h
  exact ⟨hi, (Option.some.inj h).symm⟩
theorem range0_some {n i : Nat} {d : D} (h : (rangeD 0 n)[i]? = some d) : i < n ∧ d = .int (i : Nat) := by
  obtain ⟨h1, h2⟩ := range_some h
  exact ⟨h1, by rw [h2, Int.zero_add]⟩
theorem atI_get {α : Type} {l : List α} {i : Nat} {x : α} {j : Int} (h : l[i]? = some x) (e : j = (i : Int)) : atI l j = some x := by
  have hi := (List.getElem?_eq_some_iff.mp h).1
  unfold atI ixN
  rw [e, if_pos (by omega), if_pos (by omega)]
  exact h
theorem atI_map {α β : Type} {f : α → β} {l : List α} {i : Nat} {x : α} {j : Int} (h : l[i]? = some x) (e : j = (i : Int)) : atI (l.map f) j = some (f x) := atI_get (by rw [List.getElem?_map, h]; rfl) e
theorem map_some {α β : Type} {f : α → β} {l : List α} {i : Nat} {d : β} (h : (l.map f)[i]? = some d) : ∃ x, l[i]? = some x ∧ d = f x := by
  rw [List.getElem?_map] at h
  obtain ⟨x, h1, h2⟩ := Option.map_eq_some_iff.mp h
  exact ⟨x, h1, h2.symm⟩
section
variable {X : Cx} {st : Stmt} {sts : List Stmt} {ρ : Env} {M : Mem} {Φ Ψ : Post}
theorem DS.imp (h : DS X st ρ M Ψ) (n : ∀ ρ M, Ψ.nx ρ M → Φ.nx ρ M) (t : ∀ s M, Ψ.rt s M → Φ.rt s M) (b : ∀ ρ M, Ψ.bk ρ M → Φ.bk ρ M) (c : ∀ ρ M, Ψ.ct ρ M → Φ.ct ρ M) : DS X st ρ M Φ :=
  ⟨fun Hs H σ E r q a => h.run Hs H σ E r q ⟨fun _ _ _ _ _ r f q k => a.nx _ _ _ _ _ r f q (n _ _ k), fun _ _ _ _ _ r f q k => a.rt _ _ _ _ _ r f q (t _ _ k), fun _ _ _ _ _ r f q k => a.bk _ _ _ _ _ r f q (b _ _ k), fun _ _ _ _ _ r f q k => a.ct _ _ _ _ _ r f q (c _ _ k)⟩⟩
/-- a word behind a statement -/
theorem dss_cut (W : Env → Mem → Prop) (h : DS X st ρ M { Φ with nx := W }) (k : ∀ ρ' M', W ρ' M' → DSs X sts ρ' M' Φ) : DSs X (st :: sts) ρ M Φ :=
  dss_cons (DS.imp h k (fun _ _ h => h) (fun _ _ h => h) (fun _ _ h => h))
theorem ds_cut1 (W : Env → Mem → Prop) (h : DS X st ρ M { Φ with nx := W }) (k : ∀ ρ' M', W ρ' M' → Φ.nx ρ' M') : DSs X [st] ρ M Φ :=
  dss_one (DS.imp h k (fun _ _ h => h) (fun _ _ h => h) (fun _ _ h => h))
end
end AB
namespace AB
open PySem L2
theorem abcd_key : ∀ k ∈ abcdK, isKeyS k = true := fun k hk => by
  simp only [abcdK, List.mem_cons, List.not_mem_nil, or_false] at hk
  rcases hk with rfl | rfl | rfl | rfl <;> decide +kernel
theorem rising_book : ∀ {b : Book}, BookOk b → risingD (b.map dPair) = true
  | [], _ => rfl
  | [p], _ => rfl
  | p :: q :: b, h => by
    have h1 := List.pairwise_cons.mp h
    show (ltP (dPair p) (dPair q) && risingD ((q :: b).map dPair)) = true
    rw [rising_book (b := q :: b) h1.2, show ltP (dPair p) (dPair q) = ltS p.1 q.1 from rfl, h1.1 q.1 (by simp)]; rfl
theorem isBook_d {S : List Str} {b : Book} (hS : ∀ k ∈ S, isKeyS k = true) (h : BookIn S b) : isBookD (dBook b) = true := by
  show ((b.map dPair).all isPairD && risingD (b.map dPair)) = true
  rw [rising_book h.ok, Bool.and_true, List.all_eq_true]
  intro d hd
  obtain ⟨p, hp, rfl⟩ := List.mem_map.mp hd
  have := h.mem hp
  show (isKeyS p.1 && (decide (0 ≤ p.2) && decide (p.2 < 1000))) = true
  rw [hS p.1 this.1, decide_eq_true this.2.1, decide_eq_true this.2.2]; rfl
theorem apart_self {S : List Str} {c : Chg} (hc : ChgIn S c) : apartA c c = true := (apart_iff hc hc).mpr fun f => rfl
theorem apart_done {S : List Str} {c e : Chg} {b : Book} (hc : ChgIn S c) (he : ChgIn S e) (h : apartA c e = true) (hb : KeysND b) : doneA b [c, e] = doneA b [e, c] := comm_done ((apart_iff hc he).mp h) hb
theorem apart_disj {S : List Str} {c e : Chg} (hc : ChgIn S c) (he : ChgIn S e) (h : ∀ k ∈ keysC c, k ∉ keysC e) : apartA c e = true := (apart_iff hc he).mpr (comm_disj h)
theorem two_in {S : List Str} {c e : Chg} (hc : ChgIn S c) (he : ChgIn S e) : ∀ x ∈ [c, e], ChgIn S x := fun x hx => by
  simp only [List.mem_cons, List.not_mem_nil, or_false] at hx
  rcases hx with rfl | rfl <;> assumption
theorem swap_done {c e : Chg} (h : Comm c e) {b : Book} (hb : KeysND b) (p q : List Chg) : doneA b (p ++ [e, c] ++ q) = doneA b (p ++ [c, e] ++ q) :=
  done_ext hb hb fun k => by
    rw [runF_app, runF_app, runF_app, runF_app]
    show runF (stepF (stepF (runF (lookA b) p) e) c) q k = runF (stepF (stepF (runF (lookA b) p) c) e) q k
    rw [h]
theorem split2 {α : Type} {l : List α} {i : Nat} {x y : α} (h1 : l[i]? = some x) (h2 : l[i + 1]? = some y) : l = l.take i ++ [x, y] ++ l.drop (i + 2) := by
  have e1 : l.drop i = x :: l.drop (i + 1) := (List.drop_eq_getElem_cons (List.getElem?_eq_some_iff.mp h1).1).trans (by rw [(List.getElem?_eq_some_iff.mp h1).2])
  have e2 : l.drop (i + 1) = y :: l.drop (i + 2) := (List.drop_eq_getElem_cons (List.getElem?_eq_some_iff.mp h2).1).trans (by rw [(List.getElem?_eq_some_iff.mp h2).2])
  rw [List.append_assoc]
  show l = l.take i ++ (x :: y :: l.drop (i + 2))
  rw [← e2, ← e1, List.take_append_drop]
theorem wit_none {c e : Chg} (h : witA c e = none) : apartA c e = true := by unfold apartA; rw [h]; rfl
theorem wit_notNone {c e : Chg} (h : apartA c e = false) : ∃ b, witA c e = some b := by
  unfold apartA at h
  cases q : witA c e with
  | none => rw [q] at h; cases h
  | some b => exact ⟨b, rfl⟩
theorem isNone_wit (c e : Chg) : isNone (optB (witA c e)) = apartA c e := by unfold apartA; cases witA c e <;> rfl
def FLawKeys21 : List D → D → Prop := fun ds d => ∃ c : Chg, ds = [dChg c] ∧ d = .tuple ((keysC c).map .str)
def strF (g : Str → Option D) : D → Option D
  | .str s => g s
  | _ => none
theorem fm_strs (g : Str → Option D) (l : List Str) : (l.map PyData.str).filterMap (strF g) = l.filterMap g := by
  rw [List.filterMap_map]; rfl
theorem fm_in (l m : List Str) : l.filterMap (fun k => if decide (k ∈ m) = true then some (PyData.str k) else none) = (l.filter fun k => decide (k ∈ m)).map PyData.str := by
  induction l with
  | nil => rfl
  | cons k l ih =>
    rw [List.filterMap_cons, List.filter_cons]
    cases decide (k ∈ m) with
    | true => show _ :: _ = _; rw [ih]; rfl
    | false => exact ih
end AB
namespace AB
open PySem L2
/-! ### the law's own word of apartness -/
def ext4 (k : Str) (b : Book) : List Book := [b, b ++ [(k, 0)], b ++ [(k, 7)], b ++ [(k, 900)]]
def lbA (ks : List Str) : List Book := ks.foldl (fun found k => found.flatMap (ext4 k)) [[]]
def lawBooks (ks : List Str) : List Book := (lbA ks).map sortB
def lkeys : Chg → List Str
  | .move a b => if a = b then [a] else [a, b]
  | c => [keyC c]
def lawKeys2 (c e : Chg) : List Str := lkeys c ++ (lkeys e).filter fun k => !decide (k ∈ lkeys c)
def lawApart (c e : Chg) : Bool := (lawBooks (lawKeys2 c e)).all fun b => decide (lawDone b [c, e] = lawDone b [e, c])
def FLawBooks : List D → D → Prop := fun ds d => ∃ ks : List Str, ds = [.list (ks.map .str)] ∧ ks.length ≤ 4 ∧ d = .list ((lawBooks ks).map dBook)
def FLawKeys : List D → D → Prop := fun ds d => ∃ c : Chg, ds = [dChg c] ∧ d = .list ((lkeys c).map .str)
def FLawApart : List D → D → Prop := fun ds d => ∃ (S : List Str) (c e : Chg), ds = [dChg c, dChg e] ∧ SOk S ∧ S.length ≤ 20 ∧ ChgIn S c ∧ ChgIn S e ∧ d = .bool (lawApart c e)
theorem lb_app (ks : List Str) (k : Str) : lbA (ks ++ [k]) = (lbA ks).flatMap (ext4 k) := by unfold lbA; rw [List.foldl_append]; rfl
theorem lb_len : ∀ (ks : List Str), (lbA ks).length = 4 ^ ks.length := by
  have : ∀ (n : Nat) (ks : List Str), ks.length = n → (lbA ks).length = 4 ^ ks.length := by
    intro n
    induction n with
    | zero => intro ks h; rw [List.length_eq_zero_iff.mp h]; rfl
    | succ n ih =>
      intro ks h
      obtain ⟨k, e⟩ : ∃ k, ks = ks.dropLast ++ [k] := ⟨ks.getLast (by intro z; rw [z] at h; cases h), (List.dropLast_concat_getLast _).symm⟩
      have h' := ih ks.dropLast (by rw [List.length_dropLast]; omega)
      rw [e, lb_app]
      generalize ks.dropLast = l at h'
      have : ∀ L : List Book, (L.flatMap (ext4 k)).length = L.length * 4 := by
        intro L
        induction L with
        | nil => rfl
        | cons b L ih => rw [List.flatMap_cons, List.length_append, ih, List.length_cons]; show 4 + _ = _; omega
      rw [this, h', List.length_append, List.length_singleton, Nat.pow_succ]
  exact fun ks => this ks.length ks rfl
theorem lb_le {ks : List Str} (h : ks.length ≤ 4) : (lbA ks).length ≤ 256 := by
  rw [lb_len]
  exact Nat.le_trans (Nat.pow_le_pow_right (by decide) h) (by decide)
/-- each has keys of these, in their order -/
theorem lb_over (ks : List Str) : ∀ b ∈ lbA ks, (b.map (·.1)).Sublist ks ∧ ∀ p ∈ b, InW p.2 := by
  have : ∀ (n : Nat) (ks : List Str), ks.length = n → ∀ b ∈ lbA ks, (b.map (·.1)).Sublist ks ∧ ∀ p ∈ b, InW p.2 := by
    intro n
    induction n with
    | zero =>
      intro ks h b hb
      rw [List.length_eq_zero_iff.mp h] at hb ⊢
      rw [List.mem_singleton.mp hb]
      exact ⟨List.Sublist.slnil, fun _ h => nomatch h⟩
    | succ n ih =>
      intro ks h b hb
      obtain ⟨k, e⟩ : ∃ k, ks = ks.dropLast ++ [k] := ⟨ks.getLast (by intro z; rw [z] at h; cases h), (List.dropLast_concat_getLast _).symm⟩
      have h' := ih ks.dropLast (by rw [List.length_dropLast]; omega)
      rw [e, lb_app] at hb
      rw [e]
      generalize ks.dropLast = l at h' hb
      obtain ⟨b0, h0, h1⟩ := List.mem_flatMap.mp hb
      obtain ⟨s1, s2⟩ := h' b0 h0
      have app : ∀ v, InW v → ((b0 ++ [(k, v)]).map (·.1)).Sublist (l ++ [k]) ∧ ∀ p ∈ b0 ++ [(k, v)], InW p.2 := fun v hv => ⟨by rw [List.map_append]; exact s1.append (List.Sublist.refl _), fun p hp => by
        rcases List.mem_append.mp hp with h | h
        · exact s2 p h
        · rw [List.mem_singleton.mp h]; exact hv⟩
      simp only [ext4, List.mem_cons, List.not_mem_nil, or_false] at h1
      rcases h1 with rfl | rfl | rfl | rfl
      · exact ⟨s1.trans (List.sublist_append_left _ _), s2⟩
      · exact app 0 (by unfold InW; omega)
      · exact app 7 (by unfold InW; omega)
      · exact app 900 (by unfold InW; omega)
  exact this ks.length ks rfl
theorem lkeys_mv (a b : Str) : lkeys (.move a b) = if a = b then [a] else [a, b] := rfl
theorem lkeys_nd (c : Chg) : (lkeys c).Nodup := by
  cases c with
  | move a b =>
    rw [lkeys_mv]
    by_cases h : a = b
    · rw [if_pos h]; simp
    · rw [if_neg h]; simp [h]
  | _ => simp [lkeys]
theorem lkeys_mem (c : Chg) (k : Str) : k ∈ lkeys c ↔ k ∈ keysC c := by
  cases c with
  | move a b =>
    rw [lkeys_mv]
    by_cases h : a = b
    · rw [if_pos h]; subst h; simp [keysC]
    · rw [if_neg h]; simp [keysC]
  | _ => simp [lkeys, keysC]
theorem lkeys_len (c : Chg) : (lkeys c).length ≤ 2 := by
  cases c with
  | move a b => rw [lkeys_mv]; split <;> simp
  | _ => simp [lkeys]
theorem keys2_nd (c e : Chg) : (lawKeys2 c e).Nodup := by
  unfold lawKeys2
  rw [List.nodup_append]
  refine ⟨lkeys_nd c, (lkeys_nd e).sublist List.filter_sublist, fun a ha b hb => ?_⟩
  have := (List.mem_filter.mp hb).2
  intro z
  subst z
  rw [decide_eq_true ha] at this
  cases this
theorem keys2_mem (c e : Chg) (k : Str) : k ∈ lawKeys2 c e ↔ k ∈ keysC c ++ keysC e := by
  unfold lawKeys2
  rw [List.mem_append, List.mem_append, List.mem_filter]
  constructor
  · rintro (h | h)
    · exact .inl ((lkeys_mem c k).mp h)
    · exact .inr ((lkeys_mem e k).mp h.1)
  · rintro (h | h)
    · exact .inl ((lkeys_mem c k).mpr h)
    · by_cases q : k ∈ keysC c
      · exact .inl ((lkeys_mem c k).mpr q)
      · refine .inr ⟨(lkeys_mem e k).mpr h, ?_⟩
        rw [decide_eq_false (fun z => q ((lkeys_mem c k).mp z))]; rfl
theorem keys2_len (c e : Chg) : (lawKeys2 c e).length ≤ 4 := by
  unfold lawKeys2
  rw [List.length_append]
  have := lkeys_len c
  have := lkeys_len e
  have := List.length_filter_le (fun k => !decide (k ∈ lkeys c)) (lkeys e)
  omega
theorem lawBooks_in {S ks : List Str} (hn : ks.Nodup) (h : ∀ k ∈ ks, k ∈ S) : ∀ b ∈ lawBooks ks, BookIn S b := fun b hb => by
  obtain ⟨c, hc, rfl⟩ := List.mem_map.mp hb
  obtain ⟨o1, o2⟩ := lb_over ks c hc
  have nd : KeysND c := hn.sublist o1
  refine ⟨sort_ok nd, fun k v hv => ?_⟩
  rw [sort_look nd] at hv
  have hm := look_mem hv
  exact ⟨h k (o1.subset (List.mem_map.mpr ⟨_, hm, rfl⟩)), o2 _ hm⟩
theorem lpres_in {P : List Str} (ks : List Str) (hn : ks.Nodup) : ∃ b ∈ lbA ks, (b.map (·.1)).Sublist ks ∧ ∀ j, lookA b j = if j ∈ ks ∧ j ∈ P then some 0 else none := by
  have : ∀ (n : Nat) (ks : List Str), ks.Nodup → ks.length = n → ∃ b ∈ lbA ks, (b.map (·.1)).Sublist ks ∧ ∀ j, lookA b j = if j ∈ ks ∧ j ∈ P then some 0 else none := by
    intro n
    induction n with
    | zero =>
      intro ks hn h
      have := List.length_eq_zero_iff.mp h
      subst this
      exact ⟨[], List.mem_singleton.mpr rfl, List.Sublist.slnil, fun j => by simp [lookA_nil]⟩
    | succ n ih =>
      intro ks hn h
      obtain ⟨k, e⟩ : ∃ k, ks = ks.dropLast ++ [k] := ⟨ks.getLast (by intro z; rw [z] at h; cases h), (List.dropLast_concat_getLast _).symm⟩
      rw [e] at hn
      obtain ⟨n1, _, n2⟩ := List.nodup_append.mp hn
      have kn : k ∉ ks.dropLast := fun z => n2 k z k (List.mem_singleton.mpr rfl) rfl
      obtain ⟨b, hb, hs, hl⟩ := ih ks.dropLast n1 (by rw [List.length_dropLast]; omega)
      rw [e, lb_app]
      generalize ks.dropLast = l at hb hs hl kn ⊢
      have hkb : k ∉ b.map (·.1) := fun z => kn (hs.subset z)
      by_cases hk : k ∈ P
      · refine ⟨b ++ [(k, 0)], List.mem_flatMap.mpr ⟨b, hb, by simp [ext4]⟩, by rw [List.map_append]; exact hs.append (List.Sublist.refl _), fun j => ?_⟩
        rw [app_look b k 0 hkb, hl]
        by_cases z : j = k
        · subst z; simp [hk]
        · simp [z]
      · refine ⟨b, List.mem_flatMap.mpr ⟨b, hb, by simp [ext4]⟩, hs.trans (List.sublist_append_left _ _), fun j => ?_⟩
        rw [hl]
        by_cases z : j = k
        · subst z; simp [hk]
        · simp [z]
  exact this ks.length ks hn rfl
theorem lpres_book {P ks : List Str} (hn : ks.Nodup) (h : ∀ k ∈ P, k ∈ ks) : ∃ b ∈ lawBooks ks, lookA b = pres P := by
  obtain ⟨b, hb, hs, hl⟩ := lpres_in (P := P) ks hn
  refine ⟨sortB b, List.mem_map.mpr ⟨b, hb, rfl⟩, funext fun j => ?_⟩
  rw [sort_look (hn.sublist hs), hl]
  unfold pres
  by_cases z : j ∈ P
  · rw [if_pos ⟨h j z, z⟩, if_pos z]
  · rw [if_neg fun q => z q.2, if_neg z]
theorem keys2_in {S : List Str} {c e : Chg} (hc : ChgIn S c) (he : ChgIn S e) : ∀ k ∈ lawKeys2 c e, k ∈ S := fun k hk => by
  rw [keys2_mem, List.mem_append] at hk
  exact hk.elim (keysC_in hc k) (keysC_in he k)
theorem lawApart_eq {S : List Str} {c e : Chg} (hc : ChgIn S c) (he : ChgIn S e) : lawApart c e = apartA c e := by
  have bin := lawBooks_in (keys2_nd c e) (keys2_in hc he)
  unfold lawApart
  cases h : apartA c e with
  | true =>
    rw [List.all_eq_true]
    intro b hb
    have hB := bin b hb
    rw [lawDone_eq hB (two_in hc he), lawDone_eq hB (two_in he hc), decide_eq_true_eq]
    exact apart_done hc he h hB.nd
  | false =>
    rw [apart_eq hc he] at h
    obtain ⟨P, h1, j, h2⟩ := comm_false hc he h
    obtain ⟨b, hb, hl⟩ := lpres_book (P := P) (keys2_nd c e) fun k hk => (keys2_mem c e k).mpr (h1 k hk)
    rw [List.all_eq_false]
    refine ⟨b, hb, ?_⟩
    have hB := bin b hb
    rw [lawDone_eq hB (two_in hc he), lawDone_eq hB (two_in he hc), decide_eq_true_eq]
    intro z
    have z2 := congrArg lookA z
    rw [done_look hB.nd, done_look hB.nd, hl] at z2
    exact h2 (congrFun z2 j)
end AB
namespace AB
open PySem L2
/-! ### comprehensions over things of one's own -/
structure WkC (S : Bool) (K : Fg) (J : It) (Hs0 H0 : Hp) (ds : List D) : Prop where
  go : ∀ i H, Same Hs0 H → Same H0 H → i < ds.length → J.go i H
  stop : ∀ H, Same Hs0 H → Same H0 H → J.stop ds.length H
  yld : ∀ i Hs H x H' d, Same Hs0 Hs → Same Hs H → Same H0 H → ds[i]? = some d → J.yld i H x H' → ∃ Hs', Grow Hs H Hs' H' ∧ Dr S K Hs' x d
structure PIC (X : Cx) (S : Bool) (tg iter : Expr) (ρ : Env) (M : Mem) (ds : List D) : Prop where
  run : ∀ (Hs H : Hp) (σ : L2.St) (R : It → Hp → Prop), RelM X.K Hs H M → EnvR X.K Hs σ ρ → (∀ J Hs' H', Grow Hs H Hs' H' → WkC S X.K J Hs' H' ds → R J H') → tWi X tg iter σ H R
theorem WkD.c {S : Bool} {K : Fg} {J : It} {Hs0 H0 : Hp} {ds : List D} (h : WkD S K J Hs0 ds) : WkC S K J Hs0 H0 ds := ⟨fun i H a _ b => h.go i H a b, fun H a _ => h.stop H a, fun i Hs H x H' d a b _ c e => h.yld i Hs H x H' d a b c e⟩
section
variable {X : Cx} {M : Mem} {elt tg iter : Expr} {ifs : List Expr} {scope : Scope} {pos : Pos} {ρ : Env} {items : List D}
theorem PID.c {S : Bool} (h : PID X S tg iter ρ M items) : PIC X S tg iter ρ M items := ⟨fun Hs H σ R r q k => h.run Hs H σ R r q fun J Hs' H' g w => k J Hs' H' g w.c⟩
/-- a list of one's own -/
theorem pic_own (h : PO' X iter ρ M (.lst (items.map Sl.d))) : PIC X true tg iter ρ M items := ⟨fun Hs H σ R r q k => PI.w (pi_list pe_w) (h.run Hs H σ _ r q fun a o Hs1 H1 g1 e1 e2 => by
  cases o with
  | lst vs =>
    have p := paired_data e2
    refine ⟨a, rfl, ⟨vs, .of e1⟩, k _ Hs1 H1 g1 ⟨fun i H s s0 hi => ?_, fun H s s0 => ⟨vs, .of (s0 _ _ e1), by rw [p.len]; exact Nat.le_refl _⟩, fun i Hs2 H x H' d s1 s2 s0 e y => ?_⟩⟩
    · have hl : i < vs.length := by rw [p.len]; exact hi
      exact ⟨vs, vs[i], .of (s0 _ _ e1), List.getElem?_eq_getElem hl⟩
    · obtain ⟨rfl, y⟩ := y
      obtain ⟨v, f1, f2⟩ := p.get e
      have := y vs (.of (s0 _ _ e1))
      rw [f1] at this
      cases this
      exact ⟨Hs2, .refl s2, dp_mono s1 f2⟩
  | _ => exact e2.elim)⟩
theorem lc_runC {S : Bool} {own : List (Str × Nat)} (f : D → Option D) (hi : PIC X S tg iter ρ M items) (hz : items.length ≤ 16777000)
    (ht : ∀ d, d ∈ items → Turn1 X S scope tg ifs elt ρ M (own.map (·.2)) d (f d)) (Hs H : Hp) (σ : L2.St) (Q : VK) (i : RelM X.K Hs H M) (r : EnvR X.K Hs σ ρ) (k : ∀ v Hs' H', Grow Hs H Hs' H' → Dq X.K Hs' v (.list (items.filterMap f)) → Q v H') :
    tLc (tWi X tg iter) (lcG X scope tg) (lcT X scope ifs) (lcE X scope elt) (own.map (·.2)) σ H Q := by
  refine hi.run Hs H σ _ i r fun J Hs1 H1 g1 wk Dl hD => ?_
  -- what stands behind i turns
  have i1 : RelM X.K Hs1 H1 M := i.grow g1
  have nM : ∀ b mo, M b = some mo → b ≠ Dl := fun b mo e z => by
    obtain ⟨_, o, h2, _⟩ := i1.m b mo e
    rw [z, hD] at h2; cases h2
  have rel : ∀ {Hs' H' : Hp} {o : HO}, RelM X.K Hs' H' M → Hs' Dl = none → RelM X.K Hs' (upd H' Dl o) M := fun {Hs' H' o} r n => ⟨fun b u e => by
    rw [upd_ne (ne_of_none e n)]; exact r.i b u e, fun b mo e => by
    obtain ⟨h1, u, h2, h3⟩ := r.m b mo e
    exact ⟨h1, u, by rw [upd_ne (nM b mo e)]; exact h2, h3⟩⟩
  let W : Nat → Nat → Hp → Prop := fun i m H' => m = items.length - i ∧ i ≤ items.length ∧ ∃ Hs' acc, Same Hs1 Hs' ∧ RelM X.K Hs' H' M ∧ Same H1 H' ∧ Hs' Dl = none ∧ (∀ a, Hs1 a = none → H1 a ≠ none → Hs' a = none) ∧ H' Dl = some (.lst acc) ∧ DqAll X.K Hs' acc ((items.take i).filterMap f)
  have w0 : W 0 items.length (upd H1 Dl (.lst [])) := ⟨by simp, Nat.zero_le _, Hs1, [], Same.refl _, rel i1 (g1.i.free hD), same_upd hD, g1.i.free hD, fun _ h _ => h, upd_same, by rw [List.take_zero]; exact .nil⟩
  refine ⟨W, ⟨_, w0⟩, ?_⟩
  rintro j m H' ⟨rfl, hj, Hs', acc, s1, s2, s3, n1, n2, e1, p1⟩
  by_cases hlt : j < items.length
  · refine .inr ⟨wk.go j H' (s1.trans s2.i) s3 hlt, fun H'' => W (j + 1) (items.length - (j + 1)) H'', fun H'' w => ⟨_, by omega, w⟩, fun x H2 y => ?_⟩
    obtain ⟨d, hd⟩ : ∃ d, items[j]? = some d := ⟨_, List.getElem?_eq_getElem hlt⟩
    obtain ⟨Hs2, g2, p2⟩ := wk.yld j Hs' H' x H2 d s1 s2.i s3 hd y
    obtain ⟨ρ1, ts, sub, T⟩ := (ht d (List.mem_of_getElem? hd)).ex
    have rw : EnvR X.K Hs2 (L2.wipe σ (own.map (·.2))) (wipeE ρ (own.map (·.2))) := ((r.mono g1.s).mono (s1.trans g2.s)).wipe _
    intro sA HA C cl fp
    refine (T sA HA C cl fp).1.run Hs2 H2 _ x _ g2.i rw p2 fun σ' r' o => ⟨?_, ?_⟩
    · rw [wipe_same (own.map (·.2)) (L2.wipe σ (own.map (·.2))) σ' o.1 fun j hj => o.2 j fun z => hj (sub j z), wipe_wipe]
    · intro sB HB C' cl' fp' pins st I
      obtain ⟨_, q2, q3⟩ := T sB HB C' cl' fp'
      have n3 : Hs2 Dl = none := g2.n Dl n1 (by rw [e1]; intro z; cases z)
      refine q2.run Hs2 H2 σ' _ (s2.grow g2) r' (fun Hs3 H3 g3 => ?_) pins st I
      have g23 := g2.trans g3
      cases hf : f d with
      | none =>
        refine iteF ⟨rfl, hlt, Hs3, acc, s1.trans g23.s, s2.grow g23, s3.trans g23.h, g23.n Dl n1 (by rw [e1]; intro z; cases z), fun a h1 h2 => g23.n a (n2 a h1 h2) fun z => h2 (s3.free z), g23.h _ _ e1, ?_⟩
        rw [filterMap_take f items j d hd, hf]
        show DqAll X.K Hs3 acc (_ ++ [])
        rw [List.append_nil]
        exact dpAll_mono g23.s p1
      | some z =>
        refine iteT ?_
        intro sC HC C2 cl2 fp2
        refine ((T sC HC C2 cl2 fp2).2.2 z hf).run Hs3 H3 σ' _ (s2.grow g23) (r'.mono g3.s) fun v Hs4 H4 g4 p4 => ?_
        have g24 := g23.trans g4
        have hne : H' Dl ≠ none := by rw [e1]; intro z; cases z
        have n4 : Hs4 Dl = none := g24.n Dl n1 hne
        have lacc : acc.length ≤ j := by
          rw [p1.len]
          exact Nat.le_trans (filterMap_len f _) (by rw [List.length_take]; omega)
        refine ⟨acc, g24.h _ _ e1, by have : sizeLine = 16777216 := rfl; omega, rfl, hlt, Hs4, acc ++ [v], s1.trans g24.s, rel (s2.grow g24) n4, fun b o e => ?_, n4, fun a h1 h2 => g24.n a (n2 a h1 h2) fun z => h2 (s3.free z), upd_same, ?_⟩
        · rw [upd_ne (ne_of_none e hD)]; exact g24.h b o (s3 b o e)
        · rw [filterMap_take f items j d hd, hf]
          exact (dpAll_mono g24.s p1).app (.cons p4 .nil)
  · have ej : j = items.length := by omega
    subst ej
    rw [List.take_length] at p1
    refine .inl ⟨wk.stop H' (s1.trans s2.i) s3, k _ (upd Hs' Dl (.lst acc)) H' ⟨g1.h.trans s3, (g1.s.trans s1).trans (same_upd n1), fun b o e => ?_, fun a h1 h2 => ?_⟩ (.lst (.of upd_same) (dpAll_mono (same_upd n1) p1))⟩
    · by_cases hb : b = Dl
      · subst hb; rw [upd_same] at e; cases e; exact e1
      · rw [upd_ne hb] at e; exact s2.i b o e
    · have h3 : H1 a ≠ none := fun z => h2 (g1.h.free z)
      have hb : a ≠ Dl := fun z => h3 (z ▸ hD)
      rw [upd_ne hb]
      exact n2 a (g1.n a h1 h2) h3
theorem pd_lcC {S : Bool} {own : List (Str × Nat)} (f : D → Option D) (hc : X.calm = true) (hN : X.N.Nodup) (ok : BlkOk X.N X.env.scope scope own) (hi : PIC X S tg iter ρ M items) (hz : items.length ≤ 16777000)
    (ht : ∀ d, d ∈ items → Turn1 X S scope tg ifs elt ρ M (own.map (·.2)) d (f d)) (hs : ∀ x, foldedSetIterable iter X.env x = pure x := by intro _; rfl) : PD X (.ListComp elt [⟨tg, iter, ifs, 0⟩] scope pos) ρ M (.list (items.filterMap f)) :=
  pd_of (pe_lc hc hN pi_w ok lcG_ok lcT_ok lcE_ok hs) (lc_runC f hi hz ht)
/-- a loop over a list of one's own that stands -/
theorem ds_forO {Φ : Post} {body : List Stmt} (k : Nat) {x : Str} {p : Pos} {l : Addr} (W : Nat → Env → Mem → Prop) (hp : PassesOwn (model X.prog X.w) X.A X.env X.xe) (hc : X.calm = true) (hl : ρ[k]? = some (.v (.ref l))) (h0 : W 0 ρ M) (hM : ∀ i ρ' M', W i ρ' M' → M' l = some (.lst (items.map Sl.d)))
    (ht : ∀ i d ρ' M', items[i]? = some d → W i ρ' M' → ∃ ρ1 ts, PGD X true tg d ρ' ρ1 ts ∧ DSs X body ρ1 M' { Φ with nx := W (i + 1), ct := W (i + 1), bk := Φ.nx }) (hd : ∀ ρ' M', W items.length ρ' M' → Φ.nx ρ' M')
    (hN : X.N[k]? = some x := by rfl) (hv : Vis X.env.scope x := by first | exact Or.inl rfl | exact Or.inr (Or.inl rfl) | exact Or.inr (Or.inr rfl)) (hdb : (x == ("__debug__" : Str)) = false := by decide) (hcd : (x == ("__classdict__" : Str)) = false := by decide)
    (hs : ∀ z, foldedSetIterable (.Name x p) X.env z = pure z := by intro _; rfl) : DS X (.For tg (.Name x p) body [] pos) ρ M Φ :=
  ⟨fun Hs H σ E r q a => PS.w (ps_for hp hc (pi_list (pe_var hN hv hdb hcd)) pg_w pss_w hs) (by
    have own : ∀ {i Hs' H' ρ' M'}, RelM X.K Hs' H' M' → W i ρ' M' → ∃ vs, H' l = some (.lst vs) ∧ DqAll X.K Hs' vs items := fun {i Hs' H' ρ' M'} r' w' => by
      obtain ⟨h1, o, h2, h3⟩ := r'.m l _ (hM i ρ' M' w')
      cases o with
      | lst vs => exact ⟨vs, h2, paired_data h3⟩
      | _ => exact h3.elim
    obtain ⟨vs0, e0, _⟩ := own r h0
    refine ⟨.ref l, q.getV hl, l, rfl, ⟨vs0, .of e0⟩, ?_⟩
    refine ⟨fun i m σ' H' => m = items.length - i ∧ i ≤ items.length ∧ ∃ Hs' M' ρ', RelM X.K Hs' H' M' ∧ Fr Hs H M Hs' H' M' ∧ EnvR X.K Hs' σ' ρ' ∧ W i ρ' M', ⟨items.length, by simp, Nat.zero_le _, Hs, M, ρ, r, .refl, q, h0⟩, ?_⟩
    rintro j m σ' H' ⟨rfl, hj, Hs', M', ρ', r', f', q', w'⟩
    obtain ⟨vs, e1, p1⟩ := own r' w'
    by_cases hlt : j < items.length
    · have hl2 : j < vs.length := by rw [p1.len]; exact hlt
      refine .inr ⟨⟨vs, vs[j], .of e1, List.getElem?_eq_getElem hl2⟩, fun σ2 H2 => ∃ Hs2 M2 ρ2, RelM X.K Hs2 H2 M2 ∧ Fr Hs H M Hs2 H2 M2 ∧ EnvR X.K Hs2 σ2 ρ2 ∧ W (j + 1) ρ2 M2, fun σ2 H2 w => ⟨_, by omega, rfl, hlt, w⟩, fun x H2 y => ?_⟩
      obtain ⟨d, hd⟩ : ∃ d, items[j]? = some d := ⟨_, List.getElem?_eq_getElem hlt⟩
      obtain ⟨rfl, y⟩ := y
      obtain ⟨v, g1, g2⟩ := p1.get hd
      have := y vs (.of e1)
      rw [g1] at this
      cases this
      obtain ⟨ρ1, ts, hg, hb⟩ := ht j d ρ' M' hd w'
      refine hg.run Hs' _ σ' _ _ r'.i q' g2 fun σ2 q2 _ => ?_
      refine hb.run Hs' _ σ2 _ r' q2 ⟨fun Hs3 H3 M3 σ3 ρ3 r3 f3 q3 k => ⟨Hs3, M3, ρ3, r3, f'.trans f3, q3, k⟩, fun Hs3 H3 M3 v s r3 f3 q3 k => a.rt Hs3 H3 M3 v s r3 (f'.trans f3) q3 k, fun Hs3 H3 M3 σ3 ρ3 r3 f3 q3 k => a.nx Hs3 H3 M3 σ3 ρ3 r3 (f'.trans f3) q3 k, fun Hs3 H3 M3 σ3 ρ3 r3 f3 q3 k => ⟨Hs3, M3, ρ3, r3, f'.trans f3, q3, k⟩⟩
    · have ej : j = items.length := by omega
      subst ej
      exact .inl ⟨⟨vs, .of e1, by rw [p1.len]; exact Nat.le_refl _⟩, a.nx Hs' H' M' σ' ρ' r' f' q' (hd ρ' M' w')⟩)⟩
end
end AB
namespace AB
open PySem PySem.Spec PyProof.Rows L2
/-! ### things known by what they are: a name, a field, a place of a list of one's own -/
/-- e is the value v; nothing is changed -/
structure PV (X : Cx) (e : Expr) (ρ : Env) (M : Mem) (v : V) : Prop where
  run : ∀ (Hs H : Hp) (σ : L2.St) (Q : VK), RelM X.K Hs H M → EnvR X.K Hs σ ρ → (∀ Hs' H', Grow Hs H Hs' H' → Q v H') → tWe X e σ H Q
section
variable {X : Cx} {M : Mem} {e o a b c : Expr} {es : List Expr} {ρ : Env} {d x y z : D} {ds : List D} {pos apos cpos p p2 : Pos} {Φ : Sl → Mem → Prop} {mo : MO} {Ψ : Post} {v : V} {l : Addr}
theorem pvv (i : Nat) {x : Str} {pos : Pos} (h : ρ[i]? = some (.v v) := by rfl) (hN : X.N[i]? = some x := by rfl) (hv : Vis X.env.scope x := by first | exact Or.inl rfl | exact Or.inr (Or.inl rfl) | exact Or.inr (Or.inr rfl)) (hd : (x == ("__debug__" : Str)) = false := by decide)
    (hcd : (x == ("__classdict__" : Str)) = false := by decide) : PV X (.Name x pos) ρ M v :=
  ⟨fun Hs H σ Q r q k => PE.w (pe_var hN hv hd hcd) ⟨v, q.getV h, k Hs H (.refl r.i)⟩⟩
theorem PV.fx (h : PV X e ρ M v) (k : Φ (.v v) M) : PX X e ρ M Φ := ⟨fun Hs H σ Q r q kk => h.run Hs H σ Q r q fun Hs' H' g => kk v _ Hs' H' M (r.grow g) g.fr slv_v k⟩
theorem PV.po (h : PV X e ρ M (.ref l)) (hm : M l = some mo) : PO' X e ρ M mo := ⟨fun Hs H σ Q r q k => h.run Hs H σ Q r q fun Hs' H' g => by
  obtain ⟨_, o, h2, h3⟩ := (r.grow g).m l mo hm
  exact k l o Hs' H' g h2 h3⟩
/-! ### fields -/
def putS (f : Str) (v : Sl) : List (Str × Sl) → List (Str × Sl)
  | [] => [(f, v)]
  | (g, x) :: r => if g = f then (g, v) :: r else (g, x) :: putS f v r
abbrev FldR (K : Fg) (Hs : Hp) (p : Str × V) (q : Str × Sl) : Prop := p.1 = q.1 ∧ SlV K Hs p.2 q.2
theorem put_fld {K : Fg} {Hs : Hp} {f : Str} {v : V} {s : Sl} (hv : SlV K Hs v s) : ∀ {fs : List (Str × V)} {gs : List (Str × Sl)}, Paired (FldR K Hs) fs gs → Paired (FldR K Hs) (putF f v fs) (putS f s gs)
  | [], _, h => by cases h; exact .cons ⟨rfl, hv⟩ .nil
  | (g, x) :: fs, _, h => by
    cases h with
    | @cons _ q _ r a b =>
      obtain ⟨qn, qs⟩ := q
      have e : g = qn := a.1
      subst e
      show Paired _ (if g = f then (g, v) :: fs else (g, x) :: putF f v fs) (if g = f then (g, s) :: r else (g, qs) :: putS f s r)
      by_cases hg : g = f
      · rw [if_pos hg, if_pos hg]; exact .cons ⟨rfl, hv⟩ b
      · rw [if_neg hg, if_neg hg]; exact .cons a (put_fld hv b)
theorem look_fld {K : Fg} {Hs : Hp} {f : Str} : ∀ {fs : List (Str × V)} {gs : List (Str × Sl)}, Paired (FldR K Hs) fs gs → (∀ s, gs.lookup f = some s → ∃ v, fs.lookup f = some v ∧ SlV K Hs v s) ∧ (gs.lookup f = none → fs.lookup f = none)
  | [], _, h => by cases h; exact ⟨fun s h => by simp at h, fun _ => rfl⟩
  | (g, x) :: fs, _, h => by
    cases h with
    | @cons _ q _ r a b =>
      obtain ⟨qn, qs⟩ := q
      have e : g = qn := a.1
      subst e
      have ih := look_fld (f := f) b
      rw [List.lookup_cons, List.lookup_cons]
      cases f == g with
      | true => exact ⟨fun s h => ⟨x, rfl, by cases h; exact a.2⟩, fun h => by cases h⟩
      | false => exact ih
theorem rep_ins {K : Fg} {Hs : Hp} {o : HO} {C dx : Addr} {gs : List (Str × Sl)} (h : RepO K Hs o (.ins C dx gs)) : ∃ fs, o = .ins C dx fs ∧ Paired (FldR K Hs) fs gs := by
  cases o with
  | ins C' dx' fs => obtain ⟨rfl, rfl, h⟩ := h; exact ⟨fs, rfl, h⟩
  | _ => exact h.elim
variable {C dx ad : Addr} {gs : List (Str × Sl)} {f : Str} {s : Sl}
theorem pd_fld (ho : PV X o ρ M (.ref ad)) (hm : M ad = some (.ins C dx gs)) (c : Cls X.K C) (n : NoAttr X.K C f) (hl : gs.lookup f = some (.d d)) (hb : attributeBase o f X.env (eval o X.env) = eval o X.env := by rfl) : PD X (.Attribute o f pos) ρ M d :=
  pd_of (pe_fld pe_w hb) fun Hs H σ Q r q k => ho.run Hs H σ _ r q fun Hs1 H1 g => by
    obtain ⟨_, o, h2, h3⟩ := (r.grow g).m ad _ hm
    obtain ⟨fs, rfl, pr⟩ := rep_ins h3
    obtain ⟨v, e1, e2⟩ := (look_fld pr).1 _ hl
    exact ⟨ad, C, dx, fs, v, rfl, h2, c, n, e1, k v Hs1 H1 g e2.dp⟩
theorem pv_fld (ho : PV X o ρ M (.ref ad)) (hm : M ad = some (.ins C dx gs)) (c : Cls X.K C) (n : NoAttr X.K C f) (hl : gs.lookup f = some (.v v)) (hb : attributeBase o f X.env (eval o X.env) = eval o X.env := by rfl) : PV X (.Attribute o f pos) ρ M v :=
  ⟨fun Hs H σ Q r q k => PE.w (pe_fld pe_w hb) (ho.run Hs H σ _ r q fun Hs1 H1 g => by
    obtain ⟨_, o, h2, h3⟩ := (r.grow g).m ad _ hm
    obtain ⟨fs, rfl, pr⟩ := rep_ins h3
    obtain ⟨v', e1, e2⟩ := (look_fld pr).1 _ hl
    have e2 : some v' = some v := e2
    cases e2
    exact ⟨ad, C, dx, fs, _, rfl, h2, c, n, e1, k Hs1 H1 g⟩)⟩
/-- o.f = e -/
theorem ds_fld (he : PX X e ρ M fun s M1 => ∃ (ad C dx : Addr) (gs : List (Str × Sl)), PV X o ρ M1 (.ref ad) ∧ M1 ad = some (.ins C dx gs) ∧ Cls X.K C ∧ NoAttr X.K C f ∧ gs.length < 100 ∧ Ψ.nx ρ (mup M1 ad (.ins C dx (putS f s gs))))
    (hs : swapsWith e (some (.Attribute o f p2)) pos.line X.env = pure false := by rfl) : DS X (.Assign [.Attribute o f p2] e pos) ρ M Ψ :=
  ⟨fun Hs H σ E r q A => PS.w (ps_fld pe_w pe_w hs) (he.run Hs H σ _ r q fun v s Hs1 H1 M1 r1 f1 p1 ⟨ad, C, dx, gs, ho, hm, c, n, hl, h⟩ => ho.run Hs1 H1 σ _ r1 (q.mono f1.s) fun Hs2 H2 g2 => by
    have r2 := r1.grow g2
    obtain ⟨_, o, h2, h3⟩ := r2.m ad _ hm
    obtain ⟨fs, rfl, pr⟩ := rep_ins h3
    have hlen : fs.length = gs.length := Paired.length pr
    obtain ⟨r3, f3⟩ := r2.put (o := .ins C dx (putF f v fs)) (mo := .ins C dx (putS f s gs)) hm ⟨rfl, rfl, put_fld (p1.mono g2.s) pr⟩
    exact ⟨ad, C, dx, fs, rfl, h2, c, n, by omega, A.nx Hs2 _ _ _ _ r3 ((f1.trans g2.fr).trans f3) ((q.mono f1.s).mono g2.s) h⟩)⟩
/-! ### methods -/
structure MetM (P : Program) (w : World) (K : Fg) (mg : Str → Option Value) (base : Heap) (k : Nat) (C : Addr) (m : Str) (ps : List Str) (F : MSp) : Prop where
  ex : ∃ f fd, FnOk P w K mg base CX0 k f fd ps (spM K F) ∧ Meth K C m f ∧ Binds K fd ps []
theorem px_meth {k : Nat} {m : Str} {ps : List Str} {F : MSp} {pl : Sem Bool} (h : MetM X.prog X.w X.K X.mg X.base k C m ps F) (c : Cls X.K C) (hr : Room k X.A) (ho : PV X o ρ M (.ref ad)) (hm : M ad = some (.ins C dx gs)) (hn : gs.lookup m = none) (ha : PXs X (e :: es) ρ M fun ss M1 => F (.v (.ref ad) :: ss) M1 Φ)
    (hst : starEach (e :: es) X.env = (false, eval e X.env) :: starEach es X.env := by rfl) (hpl : (backTo pos (starEach es X.env)).any (·.1) = false := by rfl)
    (ht : eval (.Call (.Attribute o m apos) (e :: es) [] pos) X.env = (do
      let ov ← eval o X.env
      standAt apos.atName
      let (f, first) ← holding [ov] (getMethod ov m pl)
      callWith pos f first (backTo pos (starEach (e :: es) X.env)) (backToKw pos (keywordEach [] X.env))) := by rfl) : PX X (.Call (.Attribute o m apos) (e :: es) [] pos) ρ M Φ := by
  obtain ⟨f, fd, F1, hM, hb⟩ := h.ex
  exact ⟨fun Hs H σ Q r q k => PE.w (pe_meth pe_w c hM F1 hr hb .nil pass0 pa_w hst hpl ht) (ho.run Hs H σ _ r q fun Hs1 H1 g => by
    have r1 := r.grow g
    obtain ⟨_, o, h2, h3⟩ := r1.m ad _ hm
    obtain ⟨fs, rfl, pr⟩ := rep_ins h3
    refine ⟨ad, dx, fs, rfl, h2, (look_fld pr).2 hn, ?_⟩
    exact ha.run Hs1 H1 σ _ r1 (q.mono g.s) fun vs ss Hs2 H2 M2 r2 f2 p2 hF => ⟨Hs2, M2, _, Φ, r2, by rw [List.append_nil]; exact .cons slv_v p2, hF, fun v s Hs3 H3 M3 r3 f3 p3 k3 => k v s Hs3 H3 M3 r3 ((g.fr.trans f2).trans f3) p3 k3⟩)⟩
theorem px_meth0 {k : Nat} {m : Str} {ps : List Str} {F : MSp} {pl : Sem Bool} (h : MetM X.prog X.w X.K X.mg X.base k C m ps F) (c : Cls X.K C) (hr : Room k X.A) (ho : PV X o ρ M (.ref ad)) (hm : M ad = some (.ins C dx gs)) (hn : gs.lookup m = none) (ha : F [.v (.ref ad)] M Φ)
    (ht : eval (.Call (.Attribute o m apos) [] [] pos) X.env = (do
      let ov ← eval o X.env
      standAt apos.atName
      let (f, first) ← holding [ov] (getMethod ov m pl)
      callWith pos f first (backTo pos (starEach [] X.env)) (backToKw pos (keywordEach [] X.env))) := by rfl) : PX X (.Call (.Attribute o m apos) [] [] pos) ρ M Φ := by
  obtain ⟨f, fd, F1, hM, hb⟩ := h.ex
  exact ⟨fun Hs H σ Q r q k => PE.w (pe_meth0 pe_w c hM F1 hr hb .nil pass0 ht) (ho.run Hs H σ _ r q fun Hs1 H1 g => by
    have r1 := r.grow g
    obtain ⟨_, o, h2, h3⟩ := r1.m ad _ hm
    obtain ⟨fs, rfl, pr⟩ := rep_ins h3
    refine ⟨ad, dx, fs, rfl, h2, (look_fld pr).2 hn, ?_⟩
    exact ⟨Hs1, M, _, Φ, r1, .cons slv_v .nil, ha, fun v s Hs3 H3 M3 r3 f3 p3 k3 => k v s Hs3 H3 M3 r3 (g.fr.trans f3) p3 k3⟩)⟩
/-! ### new instances -/
structure MakM (P : Program) (w : World) (K : Fg) (mg : Str → Option Value) (base : Heap) (k : Nat) (x : Str) (C : Addr) (ps : List Str) (F : MSp) : Prop where
  ex : ∃ f fd, FnOk P w K mg base CX0 k f fd ps (spM K F) ∧ Mk K C f ∧ mg x = some (.ref C) ∧ Binds K fd ps []
theorem px_make {k : Nat} {x : Str} {ps : List Str} {F : MSp} (h : MakM X.prog X.w X.K X.mg X.base k x C ps F) (hr : Room (k + 1) X.A) (hg : Gl X x) (ha : PXs X (e :: es) ρ M fun ss M1 => ∀ ad dx, M1 ad = none → M1 dx = none → dx ≠ ad → F (.v (.ref ad) :: ss) (mup (mup M1 dx (.own ad)) ad (.ins C dx [])) fun s M2 => s = .d .none ∧ Φ (.v (.ref ad)) M2)
    (hdb : (x == ("__debug__" : Str)) = false := by decide) (he : starEach (e :: es) X.env = (false, eval e X.env) :: starEach es X.env := by rfl) (hpl : (backTo pos (starEach es X.env)).any (·.1) = false := by rfl) : PX X (.Call (.Name x p) (e :: es) [] pos) ρ M Φ := by
  obtain ⟨f, fd, F1, hM, hx, hb⟩ := h.ex
  refine ⟨fun Hs H σ Q r q k => PE.w (pe_make hM F1 hr hg hx hb .nil pass0 pa_w hdb he hpl) (ha.run Hs H σ _ r q fun vs ss Hs1 H1 M1 r1 f1 p1 hF ad dx h1 h2 hne => ?_)⟩
  have n1 : Hs1 dx = none := r1.i.free h2
  have n2 : Hs1 ad = none := r1.i.free h1
  have g1 : Grow Hs1 H1 Hs1 (upd H1 dx (.own ad)) := .newH r1.i h2
  obtain ⟨r2, f2⟩ := r1.new (mo := .own ad) g1 h2 n1 upd_same rfl
  have h3 : upd H1 dx (.own ad) ad = none := by rw [upd_ne (Ne.symm hne)]; exact h1
  have g2 : Grow Hs1 (upd H1 dx (.own ad)) Hs1 (upd (upd H1 dx (.own ad)) ad (.ins C dx [])) := .newH r2.i h3
  obtain ⟨r3, f3⟩ := r2.new (mo := .ins C dx []) g2 h3 n2 upd_same ⟨rfl, rfl, .nil⟩
  refine ⟨Hs1, _, _, _, r3, by rw [List.append_nil]; exact .cons slv_v p1, hF ad dx (none_of r1 h1) (none_of r1 h2) hne, fun v s Hs4 H4 M4 r4 f4 p4 k4 => ?_⟩
  obtain ⟨rfl, k4⟩ := k4
  exact ⟨dp_non p4.dp, k _ _ Hs4 H4 M4 r4 (((f1.trans f2).trans f3).trans f4) slv_v k4⟩
/-! ### lists of one's own -/
theorem rep_lst {K : Fg} {Hs : Hp} {o : HO} {ss : List Sl} (h : RepO K Hs o (.lst ss)) : ∃ vs, o = .lst vs ∧ Paired (SlV K Hs) vs ss := by
  cases o with
  | lst vs => exact ⟨vs, rfl, h⟩
  | _ => exact h.elim
/-- o.append(e) -/
theorem ds_appV {l : Addr} (he : PX X e ρ M fun s M1 => ∃ ss, M1 l = some (.lst ss) ∧ ss.length < 16000000 ∧ Ψ.nx ρ (mup M1 l (.lst (ss ++ [s])))) (ho : PV X o ρ M (.ref l)) {ss0 : List Sl} (hm : M l = some (.lst ss0))
    (hbase : attributeBase o "append" X.env (eval o X.env) = eval o X.env := by rfl)
    (hfew : ((backTo cpos (starEach [e] X.env)).all (fun x => !x.1) && (backToKw cpos (keywordEach [] X.env)).all (fun x => x.1.isSome)
      && decide ([e].length + ([] : List Keyword).length + (if ([] : List Keyword).isEmpty then 0 else 1) < 30)) = true := by rfl)
    (hline : (apos.endLine == cpos.line) = true := by rfl) (hs : starEach [e] X.env = (false, eval e X.env) :: starEach [] X.env := by rfl) (hplain : (backTo cpos (starEach [] X.env)).any (·.1) = false := by rfl) (hsw : swapsWith (.Call (.Attribute o "append" apos) [e] [] cpos) none pos.line X.env = pure false := by rfl) :
    DS X (.Expr (.Call (.Attribute o "append" apos) [e] [] cpos) pos) ρ M Ψ :=
  ⟨fun Hs H σ E r q A => PS.w (ps_expr (pe_bm PySem.F.plainAttrs_list PySem.F.slot_list_append PySem.F.type_list_append mt_append pe_w (pa_cons pe_w pa_nil hs) hbase hfew hline hs hplain) hsw) (ho.run Hs H σ _ r q fun Hs0 H0 g0 => by
    have r0 := r.grow g0
    obtain ⟨_, o, h2, h3⟩ := r0.m l _ hm
    obtain ⟨vs0, rfl, _⟩ := rep_lst h3
    refine ⟨.inl ⟨rfl, _, .of h2⟩, ?_⟩
    refine he.run Hs0 H0 σ _ r0 (q.mono g0.s) fun v s Hs1 H1 M1 r1 f1 p1 ⟨ss, hm1, hz, h⟩ => ?_
    obtain ⟨_, o, k2, k3⟩ := r1.m l _ hm1
    obtain ⟨vs, rfl, pr⟩ := rep_lst k3
    have hlen : vs.length = ss.length := Paired.length pr
    refine ⟨l, vs, v, rfl, rfl, k2, by have : sizeLine = 16777216 := rfl; omega, ?_⟩
    obtain ⟨r3, f3⟩ := r1.put (o := .lst (vs ++ [v])) (mo := .lst (ss ++ [s])) hm1 (paired_app pr (.cons p1 .nil))
    exact A.nx Hs1 _ _ _ _ r3 ((g0.fr.trans f1).trans f3) ((q.mono g0.s).mono f1.s) h)⟩
theorem pd_lenO {l : Addr} {ss : List Sl} (hg : Gl X "len") (hm : X.mg "len" = none) (ho : PV X o ρ M (.ref l)) (hM : M l = some (.lst ss)) (hs : starEach [o] X.env = (false, eval o X.env) :: starEach [] X.env := by rfl) : PD X (.Call (.Name "len" p) [o] [] pos) ρ M (.int ss.length) :=
  pd_of (pe_callB call_len_seq hg hm PySem.boot_len (pa_cons pe_w pa_nil hs) (by decide) (by decide) hs) fun Hs H σ Q r q k => ho.run Hs H σ _ r q fun Hs1 H1 g => by
    obtain ⟨_, o, h2, h3⟩ := (r.grow g).m l _ hM
    obtain ⟨vs, rfl, pr⟩ := rep_lst h3
    have hlen : vs.length = ss.length := Paired.length pr
    exact ⟨l, vs, rfl, .inl (.of h2), by rw [hlen]; exact k _ Hs1 H1 g (.int _)⟩
/-- o[lo:hi], o a list of one's own, of data -/
theorem pd_slO {l : Addr} {lo hi : Option Expr} {i h : Option Int} (ho : PV X o ρ M (.ref l)) (hM : M l = some (.lst (ds.map Sl.d))) (hl : POD X lo ρ M i) (hh : POD X hi ρ M h) : PD X (.Subscript o (.Slice lo hi none p2) pos) ρ M (.list (cutD ds i h)) := by
  obtain ⟨tl, el, rl⟩ := hl.ex
  obtain ⟨th, eh, rh⟩ := hh.ex
  refine pd_of (pe_slice sl_list pe_w el eh) fun Hs H σ Q r q k => ho.run Hs H σ _ r q fun Hs1 H1 g1 => rl Hs1 H1 σ _ (r.grow g1) (q.mono g1.s) fun Hs2 H2 g2 => rh Hs2 H2 σ _ (r.grow (g1.trans g2)) (q.mono (g1.trans g2).s) fun Hs3 H3 g3 => ?_
  have gg := (g1.trans g2).trans g3
  have r3 := r.grow gg
  obtain ⟨_, o, h2, h3⟩ := r3.m l _ hM
  obtain ⟨vs, rfl, pr⟩ := rep_lst h3
  have pa := paired_data pr
  refine ⟨l, vs, rfl, .of h2, fun p hp => ?_⟩
  have e : DqAll X.K Hs3 (cutV vs i h) (cutD ds i h) := by
    unfold cutV cutD
    rw [pa.len]
    exact (pa.drop _).take _
  exact k _ _ _ (gg.trans (.new gg.i hp)) (.lst (.of upd_same) (dpAll_mono (same_upd (gg.i.free hp)) e))
/-! ### dicts of one's own -/
theorem ds_dputV {α : Type} {fα : α → D} {l : Addr} (hu : X.A.units + 1 < cLine)
    (he : PX X e ρ M fun s M1 => ∃ (v : α) (kvs : List (Str × α)) (k : Str), s = .d (fα v) ∧ PV X o ρ M1 (.ref l) ∧ M1 l = some (dctF fα kvs) ∧ PD X b ρ M1 (.str k) ∧ kvs.length < 1000000 ∧ Ψ.nx ρ (mup M1 l (dctF fα (putA kvs k v))))
    (hs : swapsWith e (some (.Subscript o b p2)) pos.line X.env = pure false := by rfl) : DS X (.Assign [.Subscript o b p2] e pos) ρ M Ψ :=
  ⟨fun Hs H σ E r q A => PS.w (ps_dput hu pe_w pe_w pe_w hs) (he.run Hs H σ _ r q fun v s Hs1 H1 M1 r1 f1 p1 ⟨v', kvs, k, e1, ho, e2, hk, hz, h⟩ => by
    subst e1
    refine ho.run Hs1 H1 σ _ r1 (q.mono f1.s) fun Hs0 H0 g0 => ?_
    refine hk.run Hs0 H0 σ _ (r1.grow g0) ((q.mono f1.s).mono g0.s) fun u Hs2 H2 g2' p2 => ?_
    have g2 := g0.trans g2'
    have hu' := dp_str p2
    subst hu'
    have r2 := r1.grow g2
    obtain ⟨m1, o, m2, m3⟩ := r2.m l _ e2
    obtain ⟨vs, rfl, rel⟩ := rep_dct m3
    have hlen : vs.length = kvs.length := Paired.length rel
    have hz' : vs.length < sizeLine := by rw [sizeLine_eq]; omega
    refine ⟨l, _, rfl, DPut.k (k := Sum.inr k) m2 hz', ?_⟩
    obtain ⟨r3, f3⟩ := r2.put (o := .dK (putK vs (Sum.inr k) v)) e2 (dct_rep (put_rel rel k (dp_mono g2.s p1.dp)))
    exact A.nx Hs2 _ _ _ _ r3 ((f1.trans g2.fr).trans f3) ((q.mono f1.s).mono g2.s) h)⟩
theorem pn_dict0 {α : Type} {fα : α → D} : PN X (.Dict [] [] pos) ρ M (dctF fα []) := ⟨fun Hs H σ Q r q k => PE.w pe_dnewK fun l hl => k l _ Hs _ (.newH r.i hl) hl (r.i.free hl) upd_same (dct_rep .nil)⟩
theorem pn_lst0 : PN X (.List [] pos) ρ M (.lst []) := ⟨fun Hs H σ Q r q k => PE.w (pe_lst pa_nil) ⟨Nat.zero_le _, fun l hl => k l _ Hs _ (.newH r.i hl) hl (r.i.free hl) upd_same .nil⟩⟩
end
end AB
namespace AB
open PySem PySem.Spec PyProof.Rows L2
/-! ### defs that may raise, by data -/
abbrev MSpX := List Sl → Mem → (Sl → Mem → Prop) → (Value → Mem → Prop) → Prop
def spX (K : Fg) (F : MSpX) : Sp := fun vs H Q E => ∃ (Hs : Hp) (M : Mem) (ss : List Sl) (Φ : Sl → Mem → Prop) (Ψ : Value → Mem → Prop), RelM K Hs H M ∧ Paired (SlV K Hs) vs ss ∧ F ss M Φ Ψ ∧
  (∀ v s Hs' H' M', RelM K Hs' H' M' → Fr Hs H M Hs' H' M' → SlV K Hs' v s → Φ s M' → Q v H') ∧ (∀ cls Hs' H' M', RelM K Hs' H' M' → Fr Hs H M Hs' H' M' → Ψ cls M' → E cls none H')
/-- a statement; what it raises -/
structure DSr (X : Cx) (st : Stmt) (ρ : Env) (M : Mem) (Φ : Post) (Ψ : Value → Mem → Prop) : Prop where
  run : ∀ (Hs H : Hp) (σ : L2.St) (E : Ends) (W : WX), Takes X W → RelM X.K Hs H M → EnvR X.K Hs σ ρ → Acc X.K Hs H M Φ E → (∀ cls Hs' H' M' σ', RelM X.K Hs' H' M' → Fr Hs H M Hs' H' M' → Ψ cls M' → W cls none σ' H') → tWs X st E σ H
structure DSrs (X : Cx) (sts : List Stmt) (ρ : Env) (M : Mem) (Φ : Post) (Ψ : Value → Mem → Prop) : Prop where
  run : ∀ (Hs H : Hp) (σ : L2.St) (E : Ends) (W : WX), Takes X W → RelM X.K Hs H M → EnvR X.K Hs σ ρ → Acc X.K Hs H M Φ E → (∀ cls Hs' H' M' σ', RelM X.K Hs' H' M' → Fr Hs H M Hs' H' M' → Ψ cls M' → W cls none σ' H') → tWss X sts E σ H
/-- an expression; what it raises -/
structure PXr (X : Cx) (e : Expr) (ρ : Env) (M : Mem) (Φ : Sl → Mem → Prop) (Ψ : Value → Mem → Prop) : Prop where
  run : ∀ (Hs H : Hp) (σ : L2.St) (Q : VK) (E : XK), Passes (L2.CX X.prog X.w) X E → RelM X.K Hs H M → EnvR X.K Hs σ ρ → (∀ v s Hs' H' M', RelM X.K Hs' H' M' → Fr Hs H M Hs' H' M' → SlV X.K Hs' v s → Φ s M' → Q v H') →
    (∀ cls Hs' H' M', RelM X.K Hs' H' M' → Fr Hs H M Hs' H' M' → Ψ cls M' → E cls none H') → tWe X e σ H Q
section
variable {X : Cx} {st : Stmt} {sts sa sb : List Stmt} {ρ : Env} {M : Mem} {Φ : Post} {Ψ : Value → Mem → Prop} {c e o : Expr} {es : List Expr} {pos p apos : Pos} {b : Bool} {Φe : Sl → Mem → Prop}
theorem DS.r (h : DS X st ρ M Φ) : DSr X st ρ M Φ Ψ := ⟨fun Hs H σ E W _ r q a _ => h.run Hs H σ E r q a⟩
theorem DSs.r (h : DSs X sts ρ M Φ) : DSrs X sts ρ M Φ Ψ := ⟨fun Hs H σ E W _ r q a _ => h.run Hs H σ E r q a⟩
theorem PX.r (h : PX X e ρ M Φe) : PXr X e ρ M Φe Ψ := ⟨fun Hs H σ Q E _ r q k _ => h.run Hs H σ Q r q k⟩
theorem dsr_cons (h : DSr X st ρ M { Φ with nx := fun ρ' M' => DSrs X sts ρ' M' Φ Ψ } Ψ) : DSrs X (st :: sts) ρ M Φ Ψ :=
  ⟨fun Hs H σ E W tk r q a x => PSs.w (pss_cons ps_w pss_w) (h.run Hs H σ _ W tk r q ⟨fun Hs' H' M' σ' ρ' r' f q' k => k.run Hs' H' σ' E W tk r' q' (a.fr f) fun cls Hs2 H2 M2 σ2 r2 f2 z => x cls Hs2 H2 M2 σ2 r2 (f.trans f2) z, a.rt, a.bk, a.ct⟩ x)⟩
theorem dsr_one (h : DSr X st ρ M Φ Ψ) : DSrs X [st] ρ M Φ Ψ := ⟨fun Hs H σ E W tk r q a x => PSs.w (pss_one ps_w) (h.run Hs H σ E W tk r q a x)⟩
theorem dsr_if (hc : PTD X c ρ M b) (h1 : b = true → DSrs X sa ρ M Φ Ψ) (h2 : b = false → DSrs X sb ρ M Φ Ψ) : DSr X (.If c sa sb pos) ρ M Φ Ψ :=
  ⟨fun Hs H σ E W tk r q a x => PS.w (ps_if pt_w pss_w pss_w) (hc.run Hs H σ _ r q fun Hs1 H1 g => by
    have x' : ∀ cls Hs' H' M' σ', RelM X.K Hs' H' M' → Fr Hs1 H1 M Hs' H' M' → Ψ cls M' → W cls none σ' H' := fun cls Hs' H' M' σ' r' f' z => x cls Hs' H' M' σ' r' (g.fr.trans f') z
    cases b with
    | true => exact iteT ((h1 rfl).run Hs1 H1 σ E W tk (r.grow g) (q.mono g.s) (a.fr g.fr) x')
    | false => exact iteF ((h2 rfl).run Hs1 H1 σ E W tk (r.grow g) (q.mono g.s) (a.fr g.fr) x'))⟩
/-- an exception class of the program's own, over ValueError, without __init__ -/
structure ExcK (K : Fg) (mg : Str → Option Value) (x : Str) (C : Addr) : Prop where
  gC : mg x = some (.ref C)
  kC : PySem.W.keepIn K (.ref C) = true
  ex : PySem.W.excIn K C [.type "ValueError", .type "Exception", .type "BaseException", .type "object"] "ValueError.__new__" = true
  sb : PySem.W.subIn K (.ref C) (.type "BaseException") = some true
  ty : PySem.W.typeIn K (.ref C) = some (.type "type")
theorem dsr_raise {x m : Str} {C : Addr} {j : Nat} {p2 pos' : Pos} (hc : X.calm = true) (k : ExcK X.K X.mg x C) (hg : Gl X x) (h : Ψ (.ref C) M) (hdb : (x == ("__debug__" : Str)) = false := by decide) : DSr X (.Raise (some (.Call (.Name x p) [.Constant (.str m) j p2] [] pos)) none pos') ρ M Φ Ψ :=
  ⟨fun Hs H σ E W tk r q a z => PS.w (ps_raise hc tk (pmk_own PySem.F.excBase_ValueError k.ex k.gC k.kC (raises_own k.sb k.ty) hg hdb)) (z _ Hs H M σ r .refl h)⟩
end
/-- where a raising def's body stands -/
abbrev bCr (P : Program) (w : World) (K : Fg) (mg : Str → Option Value) (base : Heap) (N : List Str) (qual : Str) (st : Stmt) (f : Addr) (cdv : Value) (A : Around) (outer : List PySem.Env) (s : Shared) (H : Hp) (E : XK) : Cx := cxOf (L2.CX P w) P w K mg base N qual (defScope st) f cdv A outer s H E
theorem fn_okX {P : Program} {w : World} {K : Fg} {mg : Str → Option Value} {base : Heap} {x qual : Str} {st : Stmt} {f : Addr} {fd : FuncData} {N ps : List Str} {k : Nat} {F : MSpX} (Fu : Fun K x qual st f fd) (S : FnScope N ps (defScope st))
    (len : ∀ ss M Φ Ψ, F ss M Φ Ψ → ss.length = ps.length)
    (body : ∀ (cdv : Value) (A : Around) (outer : List PySem.Env) (s : Shared) (H : Hp) (E : XK) (ss : List Sl) (M : Mem) (Φ : Sl → Mem → Prop) (Ψ : Value → Mem → Prop), Room k (A.deeper (PyProof.Rows.envOfC qual (defScope st) s.heap.objs.size f cdv)) → F ss M Φ Ψ →
      DSrs (bCr P w K mg base N qual st f cdv A outer s H E) (defBody st) (entryS N ss) M { nx := fun _ M' => Φ (.d .none) M', rt := Φ } Ψ) : FnOk P w K mg base (L2.CX P w) (k + 1) f fd ps (spX K F) := by
  refine Fu.okX S (fun vs H Q E h => ?_) (fun cdv A outer s H vs Q E hr h => ?_)
  · obtain ⟨Hs, M, ss, Φ, Ψ, i, p, hF, _⟩ := h
    rw [Paired.length p]; exact len ss M Φ Ψ hF
  · obtain ⟨Hs, M, ss, Φ, Ψ, i, p, hF, q, x⟩ := h
    refine ⟨_, pss_w, (body cdv A outer s H E ss M Φ Ψ hr hF).run Hs H _ _ (fun cls d _ H => E cls d H) (takes_of rfl rfl rfl rfl) i (slots_env p) ⟨fun Hs' H' M' σ' ρ' r f q' k => ?_, fun Hs' H' M' v z r f q' k => ?_, fun _ _ _ _ _ _ _ _ k => k.elim, fun _ _ _ _ _ _ _ _ k => k.elim⟩ fun cls Hs' H' M' σ' r f z => x cls Hs' H' M' r f z⟩
    · exact q _ _ Hs' H' M' r f (slv_d .non) k
    · exact q _ _ Hs' H' M' r f q' k
/-- a method that may raise -/
structure MetX (P : Program) (w : World) (K : Fg) (mg : Str → Option Value) (base : Heap) (k : Nat) (C : Addr) (m : Str) (ps : List Str) (F : MSpX) : Prop where
  ex : ∃ f fd, FnOk P w K mg base (L2.CX P w) k f fd ps (spX K F) ∧ Meth K C m f ∧ Binds K fd ps []
section
variable {X : Cx} {ρ : Env} {M : Mem} {Φ : Sl → Mem → Prop} {Ψ : Value → Mem → Prop} {e o : Expr} {es : List Expr} {pos p apos : Pos} {C dx ad : Addr} {gs : List (Str × Sl)}
theorem pxr_meth {k : Nat} {m : Str} {ps : List Str} {F : MSpX} {pl : Sem Bool} (h : MetX X.prog X.w X.K X.mg X.base k C m ps F) (c : Cls X.K C) (hr : Room k X.A) (ho : PV X o ρ M (.ref ad)) (hm : M ad = some (.ins C dx gs)) (hn : gs.lookup m = none) (ha : PXs X (e :: es) ρ M fun ss M1 => F (.v (.ref ad) :: ss) M1 Φ Ψ)
    (hst : starEach (e :: es) X.env = (false, eval e X.env) :: starEach es X.env := by rfl) (hpl : (backTo pos (starEach es X.env)).any (·.1) = false := by rfl)
    (ht : eval (.Call (.Attribute o m apos) (e :: es) [] pos) X.env = (do
      let ov ← eval o X.env
      standAt apos.atName
      let (f, first) ← holding [ov] (getMethod ov m pl)
      callWith pos f first (backTo pos (starEach (e :: es) X.env)) (backToKw pos (keywordEach [] X.env))) := by rfl) : PXr X (.Call (.Attribute o m apos) (e :: es) [] pos) ρ M Φ Ψ := by
  obtain ⟨f, fd, F1, hM, hb⟩ := h.ex
  exact ⟨fun Hs H σ Q E hx r q k x => PE.w (pe_meth pe_w c hM F1 hr hb .nil hx pa_w hst hpl ht) (ho.run Hs H σ _ r q fun Hs1 H1 g => by
    have r1 := r.grow g
    obtain ⟨_, o, h2, h3⟩ := r1.m ad _ hm
    obtain ⟨fs, rfl, pr⟩ := rep_ins h3
    refine ⟨ad, dx, fs, rfl, h2, (look_fld pr).2 hn, ?_⟩
    exact ha.run Hs1 H1 σ _ r1 (q.mono g.s) fun vs ss Hs2 H2 M2 r2 f2 p2 hF => ⟨Hs2, M2, _, Φ, Ψ, r2, by rw [List.append_nil]; exact .cons slv_v p2, hF, fun v s Hs3 H3 M3 r3 f3 p3 k3 => k v s Hs3 H3 M3 r3 ((g.fr.trans f2).trans f3) p3 k3, fun cls Hs3 H3 M3 r3 f3 z => x cls Hs3 H3 M3 r3 ((g.fr.trans f2).trans f3) z⟩)⟩
/-- where nothing is raised, it is as any method -/
theorem MetX.m {P : Program} {w : World} {K : Fg} {mg : Str → Option Value} {base : Heap} {k : Nat} {C : Addr} {m : Str} {ps : List Str} {F : MSpX} (h : MetX P w K mg base k C m ps F) : ∃ f fd, FnOk P w K mg base (L2.CX P w) k f fd ps (spX K F) ∧ Meth K C m f ∧ Binds K fd ps [] := h.ex
end
end AB
namespace AB
open PySem PySem.Spec PyProof.Rows L2 LamX
section
variable {X : Cx} {ρ : Env} {M : Mem} {Φ : Sl → Mem → Prop} {e o : Expr} {es : List Expr} {pos p apos : Pos} {C dx ad : Addr} {gs : List (Str × Sl)}
theorem passNo : Passes (L2.CX X.prog X.w) X (fun _ _ _ => False) := fun _ _ _ _ _ _ _ c => by
  obtain ⟨_, _, _, _, _, _, _, _, _, _, _, _, z⟩ := c
  exact z.elim
theorem PXr.px {Ψ : Value → Mem → Prop} (h : PXr X e ρ M Φ Ψ) (n : ∀ c M', ¬ Ψ c M') : PX X e ρ M Φ := ⟨fun Hs H σ Q r q k => h.run Hs H σ Q _ passNo r q k fun c _ _ M' _ _ z => n c M' z⟩
end
/-! ### a lambda without parameters, handed to a def -/
/-- the heap behind the making of a lambda: the table of the maker's code at P has it -/
def LamH (P : Addr) (q : Str) (ps : Array Value) (H : Hp) (c : Addr) (H1 : Hp) : Prop :=
  H1 = H ∨ (H c = none ∧ ∃ more : Array Value, TriplesOk (ps ++ more).toList ∧ (∀ (pos : Pos) (cv : Value), codeAmong pos (ps ++ more).toList = some cv → codeAmong pos ps.toList = some cv ∨ cv = .ref c) ∧ H1 = upd (upd H P (.tbl (ps ++ more))) c (CodeO c q))
section
variable {X : Cx} {pins : List (Addr × Obj)} {σ : L2.St} {H : Hp} {s : Shared}
theorem lam_made {c P : Addr} {ps : Array Value} {params : Arguments} {body : Expr} {scope : Scope} {pos : Pos} {E : Value → Shared → Prop} {Q : Value → Shared → Prop} (I : Inv X pins σ H s) (TB : TabB X.base X.mg c P) (hcode : X.env.code = .ref c)
    (hP : H P = some (.tbl ps)) (ht : TriplesOk ps.toList) (ha : ∀ (pos : Pos) (cv : Value), codeAmong pos ps.toList = some cv → ∃ c, cv = .ref c ∧ H c = some (CodeO c (X.env.qual ++ "<lambda>")))
    (hdef : defaultsOf params X.env = ([], [])) (hfree : ∀ y ∈ scope.names, y.2 = .free → ∃ c, X.env.cells.lookup y.1 = some c)
    (h : ∀ (f c' : Addr) (pm ctv : Value) (H1 : Hp) (s' : Shared), Inv X pins σ H1 s' → LamH P (X.env.qual ++ "<lambda>") ps H c' H1 →
      s'.heap.get? f = some (PySem.W.kla_obj "<lambda>" (X.env.qual ++ "<lambda>") params body scope (cloFrom X.env.cells scope.names []) pm c' ctv) → H1 f = none → f ∉ frs X.stack → H1 c' = some (CodeO c' (X.env.qual ++ "<lambda>")) → Q (.ref f) s') :
    wpAny (model X.prog X.w) X.A (eval (.Lambda params body scope pos) X.env) Q E s := by
  refine PySem.W.kla_eval hdef ?_
  have bP : s.heap.BuiltinsAt X.mg P := TB.bm.keeps I.bk
  have hP' : s.heap.get? P = some { cls := .none, data := .fields ps } := I.hok P _ hP
  have outside : ∀ f, s.heap.objs.size ≤ f → f ∉ frs X.stack := fun f hf z => by
    rcases List.mem_cons.mp (I.stkSub _ z) with e | e
    · have h1 := I.lt
      rw [← e] at h1
      exact Nat.lt_irrefl _ (Nat.lt_of_lt_of_le h1 hf)
    · exact I.nofs hf e
  cases hc : codeAmong pos ps.toList with
  | some cv =>
    obtain ⟨c', e, hco⟩ := ha pos cv hc
    subst e
    refine PySem.W.kla_makeFunctionHit (mg := X.mg) (c := c) (P := P) (ps := ps) (closure_ok hfree) I.ok.glob (I.mod.glob.keeps I.bk) hcode (TB.code.keeps I.bk) hP' ht hc bP fun ctv h' tk hx hsz => ?_
    have I1 : Inv X pins σ H { s with heap := h'.push (PySem.W.kla_obj "<lambda>" (X.env.qual ++ "<lambda>") params body scope (cloFrom X.env.cells scope.names []) ((X.mg "__name__").getD .none) c' ctv), toks := tk } := I.kept fun b o e => Heap.get?_push_of_some _ (hx b o e)
    exact h h'.objs.size c' _ ctv H _ I1 (.inl rfl) (Heap.get?_push_size _ rfl) (I.hok.fresh hsz) (outside _ hsz) hco
  | none =>
    refine PySem.W.kla_makeFunction (mg := X.mg) (c := c) (P := P) (ps := ps) (closure_ok hfree) I.ok.glob (I.mod.glob.keeps I.bk) hcode (TB.code.keeps I.bk) hP' ht hc TB.gP bP fun c' ctv h' tk hx hge hlt hrec htb => ?_
    obtain ⟨c2, oc, vs, t, e2, hoc, hd, hv⟩ := hrec
    cases e2
    have hsz : s.heap.objs.size ≤ h'.objs.size := Nat.le_trans hge (Nat.le_of_lt hlt)
    have nC : H c' = none := I.hok.fresh hge
    have I1 := inv_table (t' := tk) (more := #[rawInt pos.line, rawInt pos.col, .ref c']) (h' := h'.push (PySem.W.kla_obj "<lambda>" (X.env.qual ++ "<lambda>") params body scope (cloFrom X.env.cells scope.names []) ((X.mg "__name__").getD .none) c' ctv)) I hP
      (fun b o hb e => Heap.get?_push_of_some _ (hx b o hb e)) (Heap.get?_push_of_some _ htb) hge ⟨oc, vs, t, Heap.get?_push_of_some _ hoc, hd, hv⟩
    have eL : (ps ++ #[rawInt pos.line, rawInt pos.col, .ref c']).toList = ps.toList ++ [rawInt pos.line, rawInt pos.col, .ref c'] := by simp
    refine h h'.objs.size c' _ ctv _ _ I1 (.inr ⟨nC, _, by rw [eL]; exact PySem.TriplesOk_snoc _ _ _ _ ht, fun p' cv hcv => ?_, rfl⟩) (Heap.get?_push_size _ rfl) ?_ (outside _ hsz) upd_same
    · rw [eL] at hcv
      exact among_app _ ht hcv
    · have n1 : h'.objs.size ≠ c' := Nat.ne_of_gt hlt
      have n2 : h'.objs.size ≠ P := Nat.ne_of_gt (Nat.lt_of_lt_of_le (Heap.lt_size hP') hsz)
      rw [upd_ne n1, upd_ne n2]
      exact I.hok.fresh hsz
end
def tLamH (P : Addr) (q : Str) (TT : (XK → Hp → VK → Prop) → Hp → VK → Prop) (t : XK → TE) : TE := fun σ H Q => ∃ ps : Array Value, H P = some (.tbl ps) ∧ TriplesOk ps.toList ∧
  (∀ (pos : Pos) (cv : Value), codeAmong pos ps.toList = some cv → ∃ c, cv = .ref c ∧ H c = some (CodeO c q)) ∧ ∀ c' H1, LamH P q ps H c' H1 → H1 c' = some (CodeO c' q) → TT (fun E H' Q' => t E σ H' Q') H1 Q
section
variable {X : Cx}
/-- x(lambda: body) -/
theorem pe_lamH {TT : (XK → Hp → VK → Prop) → Hp → VK → Prop} {x a : Str} {g c P : Addr} {k : Nat} {pg : Arguments} {bg : List Stmt} {sg : Scope} {dV kV doc pm cdv ct oc : Value} {an od : Option Addr} {osl : Array (Option Value)} {Ng : List Str}
    {params : Arguments} {body : Expr} {scope : Scope} {t : XK → TE} {p lpos pos : Pos} (hg : Gl X x) (hm : X.mg x = some (.ref g)) (hk : PySem.W.keepIn X.K (.ref g) = true)
    (lk : X.K.lookup g = some ⟨oc, od, .func (PySem.W.fnOf x x pg bg sg dV kV doc pm an cdv ct), osl⟩) (hcg : PySem.W.codeIn X.K cdv x = true) (hb : L2.Binds X.K (PySem.W.fnOf x x pg bg sg dV kV doc pm an cdv ct) [a] []) (Sg : FnScope Ng [a] sg) (hNg : Ng[0]? = some a) (hva : Vis sg a)
    (hG : GivesTo X Ng x sg g cdv bg a (X.env.qual ++ "<lambda>") TT)
    (TB : TabB X.base X.mg c P) (hcode : X.env.code = .ref c) (hr : Room (k + 2) X.A) (L : LamS X.env.scope scope) (hdef : defaultsOf params X.env = ([], []))
    (hbind : ∀ (q : Str) (cl : List (Str × Addr)) (pm cv ctv : Value), bindArgs (PySem.W.kla_fn "<lambda>" q params body scope cl pm cv ctv) ⟨[], []⟩ = pure [])
    (hbody : ∀ (A : Around) (outer : List PySem.Env) (s : Shared) (H : Hp) (E : XK) (f c' : Addr), Room k (A.deeper (lamEnv X scope s.heap.objs.size f c')) → PE (lamCx X A outer s H E scope f c') body (t E))
    (hdb : (x == ("__debug__" : Str)) = false := by decide) (hd : (a == ("__debug__" : Str)) = false := by decide) (hcd : (a == ("__classdict__" : Str)) = false := by decide) :
    PE X (.Call (.Name x p) [.Lambda params body scope lpos] [] pos) (tLamH P (X.env.qual ++ "<lambda>") TT t) := by
  refine ⟨fun pins s σ H Q I h => ?_⟩
  obtain ⟨ps, hP, hT, hA, h⟩ := h
  refine wpAny_Call_Name_kw (ld_glob I hg hm ?_ hdb)
  refine PySem.W.callWith_K (h₀ := X.base) I.ok.mod.kin hk ?_ (by rfl) (by rfl)
  show wpAny _ _ (spliced ((false, eval (.Lambda params body scope lpos) X.env) :: backTo pos (starEach [] X.env))) _ _ s
  refine Calls.spliced_cons (lam_made I TB hcode hP hT hA hdef (L.has I.ok) fun f c' pm' ctv H1 s' I1 eH hf hfn hfr hco => ?_)
  refine Calls.spliced_nil ⟨I1.kIn, ?_⟩
  have rc : codeAny (model X.prog X.w) X.A (.call (.ref g) ⟨[.ref f], []⟩) (CR C8.CX0 X.stack X.prog X.w H1 s' Q C8.E0) s' := by
    refine run_ofS (N := Ng) (ps := [a]) (us := [.ref f]) (vs := [.ref f]) lk hcg Sg hr I1.env0 (hb s' [.ref f] I1.kIn rfl) (.cons rfl .nil) rfl fun hr' => ?_
    obtain ⟨t', ht', hq'⟩ := hG f c' s' H1 Q (fun E H' Q' => t E σ H' Q') (fun W pn xe E p1 p2 tk hW => pe_act (i := 0) I1 L hf hfn hfr (hbind _ _ _ _ _) tk hW hr' (fun A outer s H hr2 => hbody A outer s H E f c' hr2) hNg hva hd hcd) hco (h c' H1 eH hco)
    exact ⟨t', ht'.nox, hq'⟩
  refine wpAny_call (codeAny_mono rc fun r s2 hq => ?_)
  cases r with
  | error e => exact (show False from hq).elim
  | ok fl =>
    cases fl with
    | ret u => exact I1.after hq
    | next => exact False.elim hq
    | brk => exact False.elim hq
    | cont => exact False.elim hq
end
/-! ### told(deed): what the deed tells, or that it is refused -/
/-- the way of an exception of the class cls through «except A as e: .. isinstance(e, ValueError) and isinstance(e, G)» -/
structure Caught (K : Fg) (A G : Addr) (cls : Value) (b : Bool) : Prop where
  ex : ∃ D, cls = .ref D ∧ ExcC K D ∧ PySem.W.exmOne K cls (.ref A) = some true ∧ PySem.W.kitOne K cls (.type "ValueError") = some true ∧ PySem.W.kitOne K cls (.ref G) = some b
def tupR (Q : VK) (xs : List V) (H : Hp) : Prop := ∀ p o, H p = none → o.dict = none → Q (.ref p) (upd H p (.frz o (.tup xs)))
def MonoT (tl : XK → Hp → VK → Prop) : Prop := ∀ E H Q1 Q2, (∀ v H', Q1 v H' → Q2 v H') → tl E H Q1 → tl E H Q2
def TTold (K : Fg) (A G : Addr) : (XK → Hp → VK → Prop) → Hp → VK → Prop := fun tl H Q => MonoT tl ∧ tl (fun cls d H' => d = none ∧ ∃ b, Caught K A G cls b ∧ tupR Q [.str "refused", .bl b] H') H fun v H1 => tupR Q [.str "told", v] H1
/-- the same, «except A: .. ("refused", None)» -/
def TTwice (K : Fg) (A : Addr) : (XK → Hp → VK → Prop) → Hp → VK → Prop := fun tl H Q => MonoT tl ∧ tl (fun cls d H' => PySem.W.exmOne K cls (.ref A) = some true ∧ tupR Q [.str "refused", .non] H') H fun v H1 => tupR Q [.str "told", v] H1
end AB
namespace AB
open PySem PySem.Spec PyProof.Rows L2 LamX
theorem takes_len {X : Cx} {W : WX} (tk : L2.Takes X W) : L2.Takes X (fun cls d σ H => σ.length = X.N.length → W cls d σ H) := fun u s' ⟨a, B, sI, pins, σ, H, cls, d, e, I, nb, up, sky, na, os, ag, w⟩ =>
  tk u s' ⟨a, B, sI, pins, σ, H, cls, d, e, I, nb, up, sky, na, os, ag, w I.len⟩
/-- the heaps behind the making of a lambda stand for the same things -/
theorem lamH_rel {K : Fg} {Hs H H1 : Hp} {M : Mem} {P c : Addr} {q : Str} {ps : Array Value} (r : RelM K Hs H M) (hM : M P = some (.tab q)) (hP : H P = some (.tbl ps)) (h : LamH P q ps H c H1) :
    ∃ Hs1, RelM K Hs1 H1 M ∧ Fr Hs H M Hs1 H1 M := by
  rcases h with rfl | ⟨hc, more, tr, cod, rfl⟩
  · exact ⟨Hs, r, .refl⟩
  · have pc : P ≠ c := fun z => by rw [z, hc] at hP; cases hP
    obtain ⟨nP, o, e1, e2⟩ := r.m P _ hM
    rw [hP] at e1
    cases e1
    have hsc : Hs c = none := r.i.free hc
    refine ⟨upd Hs c (CodeO c q), ⟨fun b o e => ?_, fun a mo e => ?_⟩, ⟨same_upd hsc, fun a o e m => ?_, fun a h1 h2 => ?_, fun a h1 h2 => absurd h1 h2, fun a h1 => ?_⟩⟩
    · by_cases hb : b = c
      · subst hb; rw [upd_same] at e ⊢; exact e
      · rw [upd_ne hb] at e ⊢
        rw [upd_ne (fun z => by rw [z, nP] at e; cases e)]
        exact r.i b o e
    · by_cases ha : a = P
      · subst ha
        rw [hM] at e
        cases e
        refine ⟨by rw [upd_ne pc]; exact nP, .tbl (ps ++ more), by rw [upd_ne pc, upd_same], tr, fun pos cv hcv => ?_⟩
        rcases cod pos cv hcv with z | z
        · obtain ⟨c', y1, y2⟩ := e2.2 pos cv z
          exact ⟨c', y1, (same_upd hsc) _ _ y2⟩
        · exact ⟨c, z, upd_same⟩
      · obtain ⟨n1, o, y1, y2⟩ := r.m a mo e
        have ac : a ≠ c := fun z => by rw [z, hc] at y1; cases y1
        exact ⟨by rw [upd_ne ac]; exact n1, o, by rw [upd_ne ac, upd_ne ha]; exact y1, y2.mono (same_upd hsc)⟩
    · have ac : a ≠ c := fun z => by rw [z, hc] at e; cases e
      have aP : a ≠ P := fun z => by rw [z, hM] at m; cases m
      rw [upd_ne ac, upd_ne aP]; exact e
    · by_cases hb : a = c
      · subst hb; exact .inl hc
      · rw [upd_ne hb] at h2; exact absurd h1 h2
    · by_cases hb : a = c
      · subst hb; rw [upd_same]; intro z; cases z
      · rw [upd_ne hb]
        by_cases hp : a = P
        · subst hp; rw [upd_same]; intro z; cases z
        · rw [upd_ne hp]; exact h1
/-- a def that takes one thing, as a lambda is handed to it -/
structure Taker (X : Cx) (x a : Str) (TT : (XK → Hp → VK → Prop) → Hp → VK → Prop) : Prop where
  ex : ∃ (g : Addr) (pg : Arguments) (bg : List Stmt) (sg : Scope) (dV kV doc pm cdv ct oc : Value) (an od : Option Addr) (osl : Array (Option Value)) (Ng : List Str),
    X.mg x = some (.ref g) ∧ PySem.W.keepIn X.K (.ref g) = true ∧ X.K.lookup g = some ⟨oc, od, .func (PySem.W.fnOf x x pg bg sg dV kV doc pm an cdv ct), osl⟩ ∧ PySem.W.codeIn X.K cdv x = true ∧ L2.Binds X.K (PySem.W.fnOf x x pg bg sg dV kV doc pm an cdv ct) [a] [] ∧
    FnScope Ng [a] sg ∧ Ng[0]? = some a ∧ Vis sg a ∧ GivesTo X Ng x sg g cdv bg a (X.env.qual ++ "<lambda>") TT
section
variable {X : Cx} {ρ : Env} {M : Mem} {Φ Φ' : Sl → Mem → Prop} {Ψ : Value → Mem → Prop}
theorem tupR_d {Q : VK} {Hs H : Hp} {M0 M1 : Mem} {Hs0 H0 : Hp} {x : Str} {v : V} {d : D} (k : ∀ v s Hs' H' M', RelM X.K Hs' H' M' → Fr Hs0 H0 M0 Hs' H' M' → SlV X.K Hs' v s → Φ' s M' → Q v H') (r : RelM X.K Hs H M1) (f : Fr Hs0 H0 M0 Hs H M1) (p : Dq X.K Hs v d) (h : Φ' (.d (.tuple [.str x, d])) M1) : tupR Q [.str x, v] H := fun l o hl ho => by
  have g : Grow Hs H (upd Hs l (.frz o (.tup [.str x, v]))) (upd H l (.frz o (.tup [.str x, v]))) := .new r.i hl
  exact k _ _ _ _ M1 (r.grow g) (f.trans g.fr) (slv_d (.tup (.of upd_same ho) (dpAll_mono g.s (.cons (.str _) (.cons p .nil))))) h
/-- told(lambda: body) -/
theorem px_told {A G c P : Addr} {x a : Str} {k : Nat} {params : Arguments} {body : Expr} {scope : Scope} {p lpos pos : Pos} (T : Taker X x a (TTold X.K A G)) (hg : Gl X x) (TB : TabB X.base X.mg c P) (hcode : X.env.code = .ref c) (hr : Room (k + 2) X.A) (hM : M P = some (.tab (X.env.qual ++ "<lambda>")))
    (L : LamS X.env.scope scope) (hbody : ∀ (A : Around) (outer : List PySem.Env) (s : Shared) (H : Hp) (E : XK) (f c' : Addr), Room k (A.deeper (lamEnv X scope s.heap.objs.size f c')) → PXr (lamCx X A outer s H E scope f c') body ρ M Φ Ψ)
    (h1 : ∀ s M', Φ s M' → ∃ d, s = .d d ∧ Φ' (.d (.tuple [.str "told", d])) M') (h2 : ∀ cls M', Ψ cls M' → ∃ b, Caught X.K A G cls b ∧ Φ' (.d (.tuple [.str "refused", .bool b])) M')
    (hdef : defaultsOf params X.env = ([], []) := by rfl) (hbind : ∀ (q : Str) (cl : List (Str × Addr)) (pm cv ctv : Value), bindArgs (PySem.W.kla_fn "<lambda>" q params body scope cl pm cv ctv) ⟨[], []⟩ = pure [] := by intros; rfl)
    (hdb : (x == ("__debug__" : Str)) = false := by decide) (hd : (a == ("__debug__" : Str)) = false := by decide) (hcd : (a == ("__classdict__" : Str)) = false := by decide) :
    PX X (.Call (.Name x p) [.Lambda params body scope lpos] [] pos) ρ M Φ' := by
  obtain ⟨g, pg, bg, sg, dV, kV, doc, pm, cdv, ct, oc, an, od, osl, Ng, hm, hk, lk, hcg, hb, Sg, hNg, hva, hG⟩ := T.ex
  refine ⟨fun Hs H σ Q r q kk => PE.w (pe_lamH (t := fun E σ H Q => ∀ (A : Around) (outer : List PySem.Env) (s : Shared) (H0 : Hp) (f c' : Addr), Room k (A.deeper (lamEnv X scope s.heap.objs.size f c')) → tWe (lamCx X A outer s H0 E scope f c') body σ H Q) hg hm hk lk hcg hb Sg hNg hva hG TB hcode hr L hdef hbind (fun A outer s H E f c' hr2 => ⟨fun pins s' σ H' Q I h => h A outer s H f c' hr2 pins s' I⟩) hdb hd hcd) ?_⟩
  obtain ⟨nP, o, e1, e2⟩ := r.m P _ hM
  obtain ⟨ps, rfl⟩ : ∃ ps, o = .tbl ps := by cases o <;> first | exact ⟨_, rfl⟩ | exact e2.elim
  refine ⟨ps, e1, e2.1, fun pos cv hcv => (let ⟨c', y1, y2⟩ := e2.2 pos cv hcv; ⟨c', y1, r.i _ _ y2⟩), fun c' H1 hL hco => ⟨fun E H' Q1 Q2 hq h A outer s H0 f c'' hr2 pins s' I => thn (h A outer s H0 f c'' hr2 pins s' I) fun u s2 ⟨v, H2, I2, rv, qv⟩ => ⟨v, H2, I2, rv, hq v H2 qv⟩, fun A' outer s H0 f c'' hr2 => ?_⟩⟩
  obtain ⟨Hs1, r1, f1⟩ := lamH_rel r hM e1 hL
  refine (hbody A' outer s H0 _ f c'' hr2).run Hs1 H1 σ _ _ (passes_call (takes_of rfl rfl rfl rfl) fun _ _ _ _ h => h) r1 (q.mono f1.s) (fun v s' Hs2 H2 M2 r2 f2 sv φ => ?_) fun cls Hs2 H2 M2 r2 f2 ψ => ?_
  · obtain ⟨d, rfl, φ'⟩ := h1 s' M2 φ
    exact tupR_d kk r2 (f1.trans f2) sv.dp φ'
  · obtain ⟨b, cg, φ'⟩ := h2 cls M2 ψ
    exact ⟨rfl, b, cg, tupR_d kk r2 (f1.trans f2) (.bl b) φ'⟩
end
end AB
namespace AB
open PySem PySem.Spec PyProof.Rows L2 LamX
/-! ### a law that makes lambdas: its code's table is a thing that changes -/
def lamQ (x : Str) : Str := x ++ ".<locals>." ++ "<lambda>"
def spT (K : Fg) (M0 : Mem) (F : List D → D → Prop) : Sp := fun vs H Q _ => ∃ Hs ds d, RelM K Hs H M0 ∧ DqAll K Hs vs ds ∧ F ds d ∧ ∀ v Hs' H', Dq K Hs' v d → Q v H'
theorem fn_okT {P : Program} {w : World} {K : Fg} {mg : Str → Option Value} {base : Heap} {x qual : Str} {st : Stmt} {f c : Addr} {N ps : List Str} {k : Nat} {M0 : Mem} {F : List D → D → Prop} {oc : Value} {od an : Option Addr} {osl : Array (Option Value)} {kV doc pm ct : Value}
    (lk : K.lookup f = some ⟨oc, od, .func (PySem.W.fnOf x qual (defArgs st) (defBody st) (defScope st) .none kV doc pm an (.ref c) ct), osl⟩) (hcd : PySem.W.codeIn K (.ref c) qual = true) (S : FnScope N ps (defScope st))
    (len : ∀ ds d, F ds d → ds.length = ps.length)
    (body : ∀ (A : Around) (outer : List PySem.Env) (s : Shared) (H : Hp) (E : XK) (ds : List D) (d : D), Room k (A.deeper (PyProof.Rows.envOfC qual (defScope st) s.heap.objs.size f (.ref c))) → F ds d →
      DSs (bCx P w K mg base N qual st f (.ref c) A outer s H E) (defBody st) (entry N ds) M0 { nx := fun _ _ => d = .none, rt := fun s _ => s = .d d }) : FnOk P w K mg base CX0 (k + 1) f (PySem.W.fnOf x qual (defArgs st) (defBody st) (defScope st) .none kV doc pm an (.ref c) ct) ps (spT K M0 F) := by
  refine fn_of lk hcd S (fun vs H Q E h => ?_) fun A outer s H vs Q E hr h => ?_
  · obtain ⟨Hs, ds, d, i, p, hF, _⟩ := h
    rw [p.len]; exact len ds d hF
  · obtain ⟨Hs, ds, d, i, p, hF, q⟩ := h
    refine ⟨_, (pss_w (X := bCx P w K mg base N qual st f (.ref c) A outer s H E)).nox, (body A outer s H E ds d hr hF).run Hs H _ _ i (dpAll_env p) ⟨fun Hs' H' M' σ' ρ' r f q' k => ?_, fun Hs' H' M' v z r f q' k => ?_, fun _ _ _ _ _ _ _ _ k => k.elim, fun _ _ _ _ _ _ _ _ k => k.elim⟩⟩
    · exact q _ Hs' H' (by rw [show d = .none from k]; exact .non)
    · cases (show z = .d d from k)
      exact q _ Hs' H' q'.dp
theorem law_spT (K : Fg) (P : Addr) (q : Str) (H : Hp) (a : Addr) (ns : List Int) (hl : ns.length ≤ 63) (hP : H P = some (.tbl #[])) (hS : SqL K H a (ns.map V.int)) : spT K (mup m0 P (.tab q)) FLaw [.ref a] H (fun v _ => v = .bl true) fun _ _ _ => False := by
  have ne : ∀ b o, H b = some o → o ≠ .tbl #[] → (if b = P then none else H b) = some o := fun b o e n => by
    rw [if_neg (fun z => by rw [z, hP] at e; exact n (Option.some.inj e).symm)]; exact e
  refine ⟨fun b => if b = P then none else H b, [dInts ns], .bool true, ⟨fun b o e => ?_, fun b mo e => ?_⟩, .cons (.lst ?_ dpAll_ints') .nil, ⟨ns, rfl, hl, rfl⟩, fun v Hs' H' p => dp_bl p⟩
  · by_cases hb : b = P
    · rw [if_pos hb] at e; cases e
    · rw [if_neg hb] at e; exact e
  · by_cases hb : b = P
    · subst hb
      rw [mup_same] at e
      cases e
      exact ⟨if_pos rfl, .tbl #[], hP, trivial, fun pos cv z => by cases z⟩
    · rw [mup_ne hb] at e; cases e
  · rcases hS with (h | ⟨o, h⟩) | h
    · exact .inl (.inl (ne _ _ h (by intro z; cases z)))
    · exact .inl (.inr ⟨o, ne _ _ h (by intro z; cases z)⟩)
    · exact .inr h
/-- the end, with the top's own tables -/
theorem walk_ofTabs {l : PySem.W.OpenLaw} {n k : Nat} {q : Program} {loose : List Str} {XP : (Str → Option Value) → Heap → Prop} {YP : World → Heap → Prop} {d : DefRec} {K : Params → PySem.W.Frag} {x : Str}
    (hn : l.most = some n) (hn2 : n ≤ sizeLine) (hdf : d.params.defaults = []) (hr : Room k callerA) (hY : ∀ (w : World) (h : Heap), YP w h → (K w.params).In h)
    (F : ∀ (w : World) (mg mb : Str → Option Value) (fa : Addr) (h : Heap) (lo : List Str) (mean : ExcName → Option Value), Top q lo mean mg mb h → (K w.params).In h → h.Ns mainGlobals mg → mg d.name = some (.ref fa) → LawAtS l w (K w.params) CX0 k n x mg fa h) :
    PySem.W.WalkO q loose XP YP l.row.toRowW d [] (fun f vs => PySem.call f vs) := by
  refine Att.attach_callB hn hdf fun w s₀ s₁ mg mb fa o pm cd doc a vs ns G Y ho hd hcd hmg hobj hints hlen hbits hg => ?_
  have KX := hY w _ Y
  obtain ⟨fd, cs, sp, hT, nT, C, hb, hsp, hF⟩ := F w mg mb fa _ _ _ G.T KX G.T.g hmg
  exact law_callTs KX G.T.g G.T.b G.T.builtins G.T.nolimit hg hT nT C G.T.bmain hobj hints (Nat.le_trans hlen hn2) hr hF hb (fun H hH hS => hsp H a ns hlen hbits hH hS) fun H e s' h => h
/-- the law's own table alone -/
theorem lawAt_one {l : PySem.W.OpenLaw} {w : World} {K : Fg} {k : Nat} {mg mb : Str → Option Value} {f c P : Addr} {h : Heap} {fd : FuncData} {q : Program} {lo : List Str} {mean : ExcName → Option Value} {dr : DefRec}
    (T : Top q lo mean mg mb h) (X : K.In h) (hr : (recsOf q).find? (fun e => e.name == ("law" : Str)) = some dr) (ht : PySem.W.tabIn K "law" = some (c, P)) (nP : K.lookup P = none) (hb : ∀ (s : Shared) (v : Value), BindsTo s fd ⟨[v], []⟩ [("script", v)])
    (F : ∀ base : Heap, K.In base → base.Ns mainGlobals mg → TabB base mg c P → FnOk l.prog w K mg base CX0 k f fd ["script"] (spT K (mup m0 P (.tab (lamQ "law"))) FLaw)) : LawAtS l w K CX0 k 63 "script" mg f h := by
  obtain ⟨h1, h2⟩ := PySem.W.tab_of T X hr ht
  refine ⟨fd, [(c, P)], _, fun p hp => ?_, fun p hp => ?_, fun p hp => ?_, hb, fun H a ns hl _ hH hS => law_spT K P _ H a ns hl (hH (c, P) List.mem_cons_self) hS, fun base i n TB => F base i n (TB (c, P) List.mem_cons_self)⟩
  · rw [List.mem_singleton.mp hp]; exact h2
  · rw [List.mem_singleton.mp hp]; exact nP
  · rw [List.mem_singleton.mp hp]; exact h1
end AB
namespace AB
open PySem PySem.Spec PyProof.Rows L2
/-! ### methods that only read -/
abbrev RSp := List Sl → Mem → D → Prop
def spR (K : Fg) (F : RSp) : Sp := fun vs H Q _ => ∃ (Hs : Hp) (M : Mem) (ss : List Sl) (d : D), RelM K Hs H M ∧ Paired (SlV K Hs) vs ss ∧ F ss M d ∧ ∀ v Hs' H', Grow Hs H Hs' H' → Dq K Hs' v d → Q v H'
/-- statements that give d back and change nothing -/
structure GDs (X : Cx) (sts : List Stmt) (ρ : Env) (M : Mem) (d : D) : Prop where
  run : ∀ (Hs H : Hp) (σ : L2.St) (E : Ends), RelM X.K Hs H M → EnvR X.K Hs σ ρ → (∀ v Hs' H', Grow Hs H Hs' H' → Dq X.K Hs' v d → E.rt v H') → tWss X sts E σ H
section
variable {X : Cx} {ρ : Env} {M : Mem} {e o : Expr} {es : List Expr} {pos p apos : Pos} {C dx ad : Addr} {gs : List (Str × Sl)} {d : D} {sts : List Stmt}
theorem gds_ret (he : PD X e ρ M d) : GDs X [.Return (some e) pos] ρ M d := ⟨fun Hs H σ E r q k => PSs.w (pss_one (ps_ret pe_w)) (he.run Hs H σ _ r q fun v Hs1 H1 g p => k v Hs1 H1 g p)⟩
structure MetR (P : Program) (w : World) (K : Fg) (mg : Str → Option Value) (base : Heap) (k : Nat) (C : Addr) (m : Str) (ps : List Str) (F : RSp) : Prop where
  ex : ∃ f fd, FnOk P w K mg base CX0 k f fd ps (spR K F) ∧ Meth K C m f ∧ Binds K fd ps []
theorem fn_okR {P : Program} {w : World} {K : Fg} {mg : Str → Option Value} {base : Heap} {x qual : Str} {st : Stmt} {f : Addr} {fd : FuncData} {N ps : List Str} {k : Nat} {F : RSp} (Fu : Fun K x qual st f fd) (S : FnScope N ps (defScope st))
    (len : ∀ ss M d, F ss M d → ss.length = ps.length)
    (body : ∀ (cdv : Value) (A : Around) (outer : List PySem.Env) (s : Shared) (H : Hp) (E : XK) (ss : List Sl) (M : Mem) (d : D), Room k (A.deeper (PyProof.Rows.envOfC qual (defScope st) s.heap.objs.size f cdv)) → F ss M d →
      GDs (bCx P w K mg base N qual st f cdv A outer s H E) (defBody st) (entryS N ss) M d) : FnOk P w K mg base CX0 (k + 1) f fd ps (spR K F) := by
  refine Fu.ok S (fun vs H Q E h => ?_) (fun cdv A outer s H vs Q E hr h => ?_)
  · obtain ⟨Hs, M, ss, d, i, p, hF, _⟩ := h
    rw [Paired.length p]; exact len ss M d hF
  · obtain ⟨Hs, M, ss, d, i, p, hF, q⟩ := h
    exact ⟨_, pss_w, (body cdv A outer s H E ss M d hr hF).run Hs H _ _ i (slots_env p) fun v Hs' H' g z => q v Hs' H' g z⟩
theorem pd_meth0 {k : Nat} {m : Str} {ps : List Str} {F : RSp} {pl : Sem Bool} (h : MetR X.prog X.w X.K X.mg X.base k C m ps F) (c : Cls X.K C) (hr : Room k X.A) (ho : PV X o ρ M (.ref ad)) (hm : M ad = some (.ins C dx gs)) (hn : gs.lookup m = none) (ha : F [.v (.ref ad)] M d)
    (ht : eval (.Call (.Attribute o m apos) [] [] pos) X.env = (do
      let ov ← eval o X.env
      standAt apos.atName
      let (f, first) ← holding [ov] (getMethod ov m pl)
      callWith pos f first (backTo pos (starEach [] X.env)) (backToKw pos (keywordEach [] X.env))) := by rfl) : PD X (.Call (.Attribute o m apos) [] [] pos) ρ M d := by
  obtain ⟨f, fd, F1, hM, hb⟩ := h.ex
  exact ⟨fun Hs H σ Q r q k => PE.w (pe_meth0 pe_w c hM F1 hr hb .nil pass0 ht) (ho.run Hs H σ _ r q fun Hs1 H1 g => by
    have r1 := r.grow g
    obtain ⟨_, o, h2, h3⟩ := r1.m ad _ hm
    obtain ⟨fs, rfl, pr⟩ := rep_ins h3
    refine ⟨ad, dx, fs, rfl, h2, (look_fld pr).2 hn, ?_⟩
    exact ⟨Hs1, M, _, d, r1, .cons slv_v .nil, ha, fun v Hs3 H3 g3 p3 => k v Hs3 H3 (g.trans g3) p3⟩)⟩
theorem slv_all {K : Fg} {Hs : Hp} : ∀ {vs : List V} {ds : List D}, DqAll K Hs vs ds → Paired (SlV K Hs) vs (ds.map Sl.d)
  | _, [], h => by cases h; exact .nil
  | _, _ :: _, h => by cases h with | cons a b => exact .cons (slv_d a) (slv_all b)
theorem pd_meth {k : Nat} {m : Str} {ps : List Str} {F : RSp} {pl : Sem Bool} {ds : List D} (h : MetR X.prog X.w X.K X.mg X.base k C m ps F) (c : Cls X.K C) (hr : Room k X.A) (ho : PV X o ρ M (.ref ad)) (hm : M ad = some (.ins C dx gs)) (hn : gs.lookup m = none) (ha : PDs X (e :: es) ρ M ds) (hF : F (.v (.ref ad) :: ds.map Sl.d) M d)
    (hst : starEach (e :: es) X.env = (false, eval e X.env) :: starEach es X.env := by rfl) (hpl : (backTo pos (starEach es X.env)).any (·.1) = false := by rfl)
    (ht : eval (.Call (.Attribute o m apos) (e :: es) [] pos) X.env = (do
      let ov ← eval o X.env
      standAt apos.atName
      let (f, first) ← holding [ov] (getMethod ov m pl)
      callWith pos f first (backTo pos (starEach (e :: es) X.env)) (backToKw pos (keywordEach [] X.env))) := by rfl) : PD X (.Call (.Attribute o m apos) (e :: es) [] pos) ρ M d := by
  obtain ⟨f, fd, F1, hM, hb⟩ := h.ex
  exact ⟨fun Hs H σ Q r q k => PE.w (pe_meth pe_w c hM F1 hr hb .nil pass0 pa_w hst hpl ht) (ho.run Hs H σ _ r q fun Hs1 H1 g => by
    have r1 := r.grow g
    obtain ⟨_, o, h2, h3⟩ := r1.m ad _ hm
    obtain ⟨fs, rfl, pr⟩ := rep_ins h3
    refine ⟨ad, dx, fs, rfl, h2, (look_fld pr).2 hn, ?_⟩
    exact ha.run Hs1 H1 σ _ r1 (q.mono g.s) fun vs Hs2 H2 g2 p2 => ⟨Hs2, M, _, d, r1.grow g2, by rw [List.append_nil]; exact .cons slv_v (slv_all p2), hF, fun v Hs3 H3 g3 p3 => k v Hs3 H3 ((g.trans g2).trans g3) p3⟩)⟩
end
section
variable {X : Cx} {ρ : Env} {M : Mem} {a b : Expr} {pos p : Pos}
theorem boot_max : bootBuiltins "max" = some (.builtin "max") := by decide +kernel
theorem pd_max {i j : Int} (hc : X.calm = true) (hg : Gl X "max") (hm : X.mg "max" = none) (ha : PD X a ρ M (.int i)) (hb : PD X b ρ M (.int j)) (hs : starEach [a, b] X.env = (false, eval a X.env) :: starEach [b] X.env := by rfl) (hs2 : starEach [b] X.env = (false, eval b X.env) :: starEach [] X.env := by rfl) (hpl : (backTo pos (starEach [b] X.env)).any (·.1) = false := by rfl) :
    PD X (.Call (.Name "max" p) [a, b] [] pos) ρ M (.int (if j > i then j else i)) :=
  pd_callB (call_max2 hc) (fun Hs H vs Q s p k => by
    cases p with
    | cons h1 h2 =>
      cases h2 with
      | cons h3 h4 =>
        cases h4
        exact ⟨i, j, by rw [dp_int h1, dp_int h3], k _ Hs H (.refl s) (.int _)⟩) hg hm boot_max (pds_cons ha (pds_cons hb pds_nil hs2) hs) (by decide) (by decide) hs hpl
end
end AB
namespace AB
open PySem L2
/-! ### far books -/
/-- a row of a log: its number, who, which of theirs, the change -/
structure LRow where
  n : Int
  who : Str
  at_ : Int
  c : Chg
def dLRow (x : LRow) : D := .tuple [.int x.n, .str x.who, .int x.at_, dChg x.c]
def dLog (l : List LRow) : D := .tuple (l.map dLRow)
structure FarS where
  now : Book
  log : List LRow
  counts : List (Str × Int)
def FarS.cnt (s : FarS) (who : Str) : Int := (lookA s.counts who).getD 0
def FarS.push (s : FarS) (who : Str) (m : Int) (c : Chg) : FarS := ⟨doneA s.now [c], s.log ++ [⟨(s.log.length : Int) + 1, who, m, c⟩], s.counts⟩
def FarS.pushes (s : FarS) (who : Str) (m : Int) : List Chg → FarS
  | [] => s
  | c :: cs => (s.push who m c).pushes who (m + 1) cs
def FarS.take (s : FarS) (who : Str) (first : Int) (cs : List Chg) : FarS :=
  let rest := cs.drop (s.cnt who - first).toNat
  let t := s.pushes who (s.cnt who) rest
  ⟨t.now, t.log, putA t.counts who (s.cnt who + (rest.length : Int))⟩
theorem pushes_snoc : ∀ (cs : List Chg) (s : FarS) (who : Str) (m : Int) (c : Chg), s.pushes who m (cs ++ [c]) = (s.pushes who m cs).push who (m + (cs.length : Int)) c
  | [], s, who, m, c => by show s.push who m c = s.push who (m + 0) c; rw [Int.add_zero]
  | x :: cs, s, who, m, c => by
    show (s.push who m x).pushes who (m + 1) (cs ++ [c]) = ((s.push who m x).pushes who (m + 1) cs).push who (m + ((cs.length + 1 : Nat) : Int)) c
    rw [pushes_snoc cs]
    congr 1
    omega
theorem pushes_log : ∀ (cs : List Chg) (s : FarS) (who : Str) (m : Int), (s.pushes who m cs).log.length = s.log.length + cs.length
  | [], _, _, _ => rfl
  | c :: cs, s, who, m => by
    show ((s.push who m c).pushes who (m + 1) cs).log.length = _
    rw [pushes_log cs]
    show (s.log ++ [_]).length + cs.length = _
    rw [List.length_append]; simp; omega
theorem pushes_counts : ∀ (cs : List Chg) (s : FarS) (who : Str) (m : Int), (s.pushes who m cs).counts = s.counts
  | [], _, _, _ => rfl
  | c :: cs, s, who, m => (pushes_counts cs (s.push who m c) who (m + 1))
/-- where a far book lies -/
structure FarM (M : Mem) (C ad dx l cn : Addr) (s : FarS) : Prop where
  a : M ad = some (.ins C dx [("now", .d (dBook s.now)), ("log", .v (.ref l)), ("counts", .v (.ref cn))])
  d : M dx = some (.own ad)
  l : M l = some (.lst ((s.log.map dLRow).map Sl.d))
  c : M cn = some (dctF PyData.int s.counts)
section
variable {M M' : Mem} {C ad dx l cn : Addr} {s : FarS}
theorem FarM.al (h : FarM M C ad dx l cn s) : ad ≠ l := fun z => by have := h.a; rw [z, h.l] at this; cases this
theorem FarM.ac (h : FarM M C ad dx l cn s) : ad ≠ cn := fun z => by have := h.a; rw [z, h.c] at this; cases this
theorem FarM.da (h : FarM M C ad dx l cn s) : dx ≠ ad := fun z => by have := h.d; rw [z, h.a] at this; cases this
theorem FarM.dl (h : FarM M C ad dx l cn s) : dx ≠ l := fun z => by have := h.d; rw [z, h.l] at this; cases this
theorem FarM.dc (h : FarM M C ad dx l cn s) : dx ≠ cn := fun z => by have := h.d; rw [z, h.c] at this; cases this
theorem FarM.lc (h : FarM M C ad dx l cn s) : l ≠ cn := fun z => by have := h.l; rw [z, h.c] at this; cases this
/-- all else stands as it stood -/
def FarFr (M M' : Mem) (ad l cn : Addr) : Prop := ∀ b, b ≠ ad → b ≠ l → b ≠ cn → M' b = M b
theorem FarM.far (h : FarM M C ad dx l cn s) (f : ∀ b, b = ad ∨ b = dx ∨ b = l ∨ b = cn → M' b = M b) : FarM M' C ad dx l cn s :=
  ⟨(f ad (.inl rfl)).trans h.a, (f dx (.inr (.inl rfl))).trans h.d, (f l (.inr (.inr (.inl rfl)))).trans h.l, (f cn (.inr (.inr (.inr rfl)))).trans h.c⟩
theorem FarM.pushed (h : FarM M C ad dx l cn s) (who : Str) (m : Int) (c : Chg) :
    FarM (mup (mup M l (.lst ((s.log.map dLRow).map Sl.d ++ [.d (dLRow ⟨(s.log.length : Int) + 1, who, m, c⟩)]))) ad (.ins C dx [("now", .d (dBook (doneA s.now [c]))), ("log", .v (.ref l)), ("counts", .v (.ref cn))])) C ad dx l cn (s.push who m c) where
  a := mup_same
  d := by rw [mup_ne h.da, mup_ne h.dl]; exact h.d
  l := by
    rw [mup_ne h.al.symm, mup_same]
    show _ = some (MO.lst (((s.log ++ [_]).map dLRow).map Sl.d))
    rw [List.map_append, List.map_append]; rfl
  c := by rw [mup_ne h.ac.symm, mup_ne h.lc.symm]; exact h.c
theorem FarM.counted (h : FarM M C ad dx l cn s) (who : Str) (m : Int) : FarM (mup M cn (dctF PyData.int (putA s.counts who m))) C ad dx l cn ⟨s.now, s.log, putA s.counts who m⟩ where
  a := by rw [mup_ne h.ac]; exact h.a
  d := by rw [mup_ne h.dc]; exact h.d
  l := by rw [mup_ne h.lc]; exact h.l
  c := mup_same
end
def FFarInit (C : Addr) : MSp := fun ss M Φ => ∃ (ad dx : Addr) (b : Book), ss = [.v (.ref ad), .d (dBook b)] ∧ M ad = some (.ins C dx []) ∧ M dx = some (.own ad) ∧
  ∀ M' l cn, FarM M' C ad dx l cn ⟨b, [], []⟩ → M l = none → M cn = none → FarFr M M' ad l cn → Φ (.d .none) M'
def FFarBook (C : Addr) : RSp := fun ss M d => ∃ (ad dx l cn : Addr) (s : FarS), ss = [.v (.ref ad)] ∧ FarM M C ad dx l cn s ∧ d = dBook s.now
def FFarRows (C : Addr) : RSp := fun ss M d => ∃ (ad dx l cn : Addr) (s : FarS) (n : Int), ss = [.v (.ref ad), .d (.int n)] ∧ FarM M C ad dx l cn s ∧ d = .tuple (cutD (s.log.map dLRow) (some n) none)
def FFarTake (C G : Addr) : MSpX := fun ss M Φ Ψ => ∃ (ad dx l cn : Addr) (s : FarS) (who : Str) (first : Int) (cs : List Chg), ss = [.v (.ref ad), .d (.str who), .d (.int first), .d (dRow cs)] ∧ FarM M C ad dx l cn s ∧
  s.now.length ≤ 900 ∧ (∀ b ∈ s.now, True) ∧ KeysND s.now ∧ s.log.length ≤ 10000 ∧ s.counts.length ≤ 1000 ∧ cs.length ≤ 50 ∧
  (s.cnt who < first → Ψ (.ref G) M) ∧ (first ≤ s.cnt who → ∀ M', FarM M' C ad dx l cn (s.take who first cs) → FarFr M M' ad l cn → Φ (.d (.int (s.cnt who + ((cs.drop (s.cnt who - first).toNat).length : Int)))) M')
/-- a method's def in the table of its class -/
structure Mth (K : Fg) (C : Addr) (m qual : Str) (st : Stmt) (ps : List Str) : Prop where
  ex : ∃ f fd, Fun K m qual st f fd ∧ Meth K C m f ∧ Binds K fd ps []
structure Mkr (K : Fg) (mg : Str → Option Value) (C : Addr) (x qual : Str) (st : Stmt) (ps : List Str) : Prop where
  ex : ∃ f fd, Fun K "__init__" qual st f fd ∧ Mk K C f ∧ mg x = some (.ref C) ∧ Binds K fd ps []
/-- the class Far -/
structure FarC (K : Fg) (C : Addr) : Prop where
  c : Cls K C
  now : NoAttr K C "now"
  log : NoAttr K C "log"
  counts : NoAttr K C "counts"
end AB
namespace AB
open PySem L2
theorem pushes_now : ∀ (cs : List Chg) (s : FarS) (who : Str) (m : Int), KeysND s.now → (s.pushes who m cs).now.length ≤ s.now.length + cs.length ∧ KeysND (s.pushes who m cs).now
  | [], _, _, _, h => ⟨Nat.le_refl _, h⟩
  | c :: cs, s, who, m, h => by
    have h1 := done_len h [c]
    have h2 := pushes_now cs (s.push who m c) who (m + 1) (done_ok h [c]).nd
    show ((s.push who m c).pushes who (m + 1) cs).now.length ≤ _ ∧ _
    refine ⟨Nat.le_trans h2.1 ?_, h2.2⟩
    show (doneA s.now [c]).length + cs.length ≤ _
    rw [List.length_cons]
    have : [c].length = 1 := rfl
    omega
end AB
namespace AB
open PySem L2
/-! ### the law's own far book (k50): its rows, what is whose -/
abbrev Owns := List (Str × List Chg)
def ownOf (ow : Owns) (who : Str) : List Chg := (lookA ow who).getD []
theorem putA_look {α : Type} (b : List (Str × α)) (k : Str) (v : α) (j : Str) : lookA (putA b k v) j = if j = k then some v else lookA b j := by
  unfold putA
  by_cases h : (b.any fun kv => decide (kv.1 = k)) = true
  · rw [if_pos h]
    induction b with
    | nil => simp at h
    | cons p r ih =>
      rw [List.map_cons]
      by_cases hp : p.1 = k
      · rw [if_pos hp]
        by_cases hj : j = k
        · rw [if_pos hj, lookA_pos (by show p.1 = j; rw [hp, hj])]
        · rw [if_neg hj, lookA_neg (by show ¬ p.1 = j; rw [hp]; exact fun z => hj z.symm), lookA_neg (by rw [hp]; exact fun z => hj z.symm)]
          by_cases hr : (r.any fun kv => decide (kv.1 = k)) = true
          · rw [ih hr, if_neg hj]
          · have : r.map (fun kv => if kv.1 = k then (kv.1, v) else kv) = r := by
              have hr' : ∀ x ∈ r, ¬ x.1 = k := fun x hx z => hr (List.any_eq_true.mpr ⟨x, hx, decide_eq_true z⟩)
              clear ih h hr
              induction r with
              | nil => rfl
              | cons y r ih2 => rw [List.map_cons, if_neg (hr' y List.mem_cons_self), ih2 fun x hx => hr' x (List.mem_cons_of_mem _ hx)]
            rw [this]
      · rw [if_neg hp]
        have hr : (r.any fun kv => decide (kv.1 = k)) = true := by
          rw [List.any_cons, decide_eq_false hp, Bool.false_or] at h; exact h
        by_cases hj : p.1 = j
        · rw [lookA_pos hj, lookA_pos hj, if_neg (fun z => hp (hj.trans z))]
        · rw [lookA_neg hj, lookA_neg hj, ih hr]
  · rw [if_neg h]
    induction b with
    | nil =>
      rw [List.nil_append]
      by_cases hj : j = k
      · rw [if_pos hj, lookA_pos (by show k = j; exact hj.symm)]
      · rw [if_neg hj, lookA_neg (by show ¬ k = j; exact fun z => hj z.symm)]
    | cons p r ih =>
      have hp : ¬ p.1 = k := fun z => h (by rw [List.any_cons, decide_eq_true z]; rfl)
      have hr : ¬ (r.any fun kv => decide (kv.1 = k)) = true := fun z => h (by rw [List.any_cons, z, Bool.or_true])
      rw [List.cons_append]
      by_cases hj : p.1 = j
      · rw [lookA_pos hj, lookA_pos hj, if_neg (fun z => hp (hj.trans z))]
      · rw [lookA_neg hj, lookA_neg hj, ih hr]
theorem putA_len {α : Type} (b : List (Str × α)) (k : Str) (v : α) : (putA b k v).length ≤ b.length + 1 := by
  unfold putA
  split
  · rw [List.length_map]; omega
  · rw [List.length_append]; exact Nat.le_refl _
structure FarOk (st : FarS) (ow : Owns) (i : Nat) : Prop where
  bk : BookIn abcdK st.now
  cnt : ∀ who, st.cnt who = ((ownOf ow who).length : Int)
  len : st.log.length ≤ 3 * i
  own : ∀ who, (∀ c ∈ ownOf ow who, ChgIn abcdK c) ∧ (ownOf ow who).length ≤ 3 * i
  cl : st.counts.length ≤ i
  ol : ow.length ≤ i
  lg : ∀ x ∈ st.log, ChgIn abcdK x.c ∧ KeyOk x.who
theorem FarOk.up {st : FarS} {ow : Owns} {i : Nat} (h : FarOk st ow i) : FarOk st ow (i + 1) := ⟨h.bk, h.cnt, by have := h.len; omega, fun w => ⟨(h.own w).1, by have := (h.own w).2; omega⟩, by have := h.cl; omega, by have := h.ol; omega, h.lg⟩
theorem pushes_ok {S : List Str} : ∀ (cs : List Chg) (s : FarS) (who : Str) (m : Int), BookIn S s.now → (∀ c ∈ cs, ChgIn S c) → BookIn S (s.pushes who m cs).now
  | [], _, _, _, h, _ => h
  | c :: cs, s, who, m, h, hc => pushes_ok cs (s.push who m c) who (m + 1) (done_in h fun x hx => by rw [List.mem_singleton.mp hx]; exact hc c List.mem_cons_self) fun x hx => hc x (List.mem_cons_of_mem _ hx)
theorem pushes_lg : ∀ (cs : List Chg) (s : FarS) (who : Str) (m : Int), KeyOk who → (∀ c ∈ cs, ChgIn abcdK c) → (∀ x ∈ s.log, ChgIn abcdK x.c ∧ KeyOk x.who) → ∀ x ∈ (s.pushes who m cs).log, ChgIn abcdK x.c ∧ KeyOk x.who
  | [], _, _, _, _, _, h => h
  | c :: cs, s, who, m, hw, hc, h => pushes_lg cs (s.push who m c) who (m + 1) hw (fun x hx => hc x (List.mem_cons_of_mem _ hx)) fun x hx => by
    rcases List.mem_append.mp hx with hx | hx
    · exact h x hx
    · rw [List.mem_singleton.mp hx]; exact ⟨hc c List.mem_cons_self, hw⟩
/-- a taking behind what is there -/
theorem take_rest {st : FarS} {ow : Owns} {i : Nat} (h : FarOk st ow i) (who : Str) {f : Nat} (hf : f ≤ (ownOf ow who).length) (rr : List Chg) :
    ((ownOf ow who).drop f ++ rr).drop (st.cnt who - (f : Int)).toNat = rr := by
  rw [h.cnt who]
  have e : (((ownOf ow who).length : Int) - (f : Int)).toNat = ((ownOf ow who).drop f).length := by rw [List.length_drop]; omega
  rw [e, List.drop_left]
theorem FarOk.taken {st : FarS} {ow : Owns} {i : Nat} (h : FarOk st ow i) {who : Str} (hw : KeyOk who) {f : Nat} (hf : f ≤ (ownOf ow who).length) {rr : List Chg} (hr : ∀ c ∈ rr, ChgIn abcdK c) (lr : rr.length ≤ 3) :
    FarOk (st.take who (f : Int) ((ownOf ow who).drop f ++ rr)) (putA ow who (ownOf ow who ++ rr)) (i + 1) := by
  have e : st.take who (f : Int) ((ownOf ow who).drop f ++ rr) = ⟨(st.pushes who (st.cnt who) rr).now, (st.pushes who (st.cnt who) rr).log, putA st.counts who (st.cnt who + (rr.length : Int))⟩ := by
    unfold FarS.take
    simp only [take_rest h who hf rr, pushes_counts]
  have eo : ∀ j, ownOf (putA ow who (ownOf ow who ++ rr)) j = if j = who then ownOf ow who ++ rr else ownOf ow j := fun j => by
    unfold ownOf
    rw [putA_look]
    split <;> rfl
  rw [e]
  refine ⟨pushes_ok rr st who _ h.bk hr, fun j => ?_, ?_, fun j => ?_, ?_, ?_, pushes_lg rr st who _ hw hr h.lg⟩
  · rw [eo]
    show (lookA (putA st.counts who (st.cnt who + (rr.length : Int))) j).getD 0 = _
    rw [putA_look]
    by_cases hj : j = who
    · rw [if_pos hj, if_pos hj, h.cnt who, List.length_append]
      show ((ownOf ow who).length : Int) + (rr.length : Int) = _
      omega
    · rw [if_neg hj, if_neg hj]; exact h.cnt j
  · show (st.pushes who (st.cnt who) rr).log.length ≤ _
    rw [pushes_log]; have := h.len; omega
  · rw [eo]
    by_cases hj : j = who
    · rw [if_pos hj]
      refine ⟨fun c hc => (List.mem_append.mp hc).elim ((h.own who).1 c) (hr c), ?_⟩
      rw [List.length_append]; have := (h.own who).2; omega
    · rw [if_neg hj]; exact ⟨(h.own j).1, by have := (h.own j).2; omega⟩
  · have := putA_len st.counts who (st.cnt who + (rr.length : Int)); have := h.cl; show (putA st.counts who _).length ≤ _; omega
  · have := putA_len ow who (ownOf ow who ++ rr); have := h.ol; omega
theorem ok_lrow {x : LRow} (h : ChgIn abcdK x.c ∧ KeyOk x.who) : okD 2 (dLRow x) := okD_tup (by simp) fun d hd => by
  simp only [List.mem_cons, List.not_mem_nil, or_false] at hd
  rcases hd with rfl | rfl | rfl | rfl
  · exact okD_int
  · exact ok_str h.2
  · exact okD_int
  · exact ok_chg keyOk_abcd h.1
theorem ok_log {l : List LRow} (h : ∀ x ∈ l, ChgIn abcdK x.c ∧ KeyOk x.who) (hl : l.length ≤ 1000) : okD 3 (dLog l) := okD_tup (by rw [List.length_map]; exact hl) fun d hd => by
  obtain ⟨x, hx, rfl⟩ := List.mem_map.mp hd
  exact ok_lrow (h x hx)
end AB
namespace AB
open PySem L2
/-! ### near books -/
structure NearS where
  who : Str
  now : Book
  number : Int
  own : List Chg
  first : Int
def nearF (s : NearS) : List (Str × Sl) := [("who", .d (.str s.who)), ("now", .d (dBook s.now)), ("number", .d (.int s.number)), ("own", .d (dRow s.own)), ("first", .d (.int s.first))]
def nearO (C dx : Addr) (s : NearS) : MO := .ins C dx (nearF s)
def NearS.do_ (s : NearS) (c : Chg) : NearS := { s with own := s.own ++ [c] }
/-- one row more is known -/
def NearS.know1 (s : NearS) (x : LRow) : NearS := ⟨s.who, doneA s.now [x.c], x.n, if x.who = s.who then s.own.drop 1 else s.own, if x.who = s.who then x.at_ + 1 else s.first⟩
def NearS.new (s : NearS) (l : List LRow) : List LRow := l.filter fun x => decide (s.number < x.n)
def NearS.gap (s : NearS) (l : List LRow) : Bool := match s.new l with
  | [] => false
  | x :: _ => !decide (x.n = s.number + 1)
def NearS.knows (s : NearS) (l : List LRow) : NearS := (s.new l).foldl NearS.know1 s
/-- where a near book lies -/
structure NearM (M : Mem) (C ad dx : Addr) (s : NearS) : Prop where
  a : M ad = some (.ins C dx (nearF s))
  d : M dx = some (.own ad)
section
variable {M M' : Mem} {C ad dx : Addr} {s : NearS}
theorem NearM.da (h : NearM M C ad dx s) : dx ≠ ad := fun z => by have := h.d; rw [z, h.a] at this; cases this
theorem NearM.up (h : NearM M C ad dx s) (t : NearS) : NearM (mup M ad (nearO C dx t)) C ad dx t := ⟨mup_same, (mup_ne h.da).trans h.d⟩
theorem NearM.far (h : NearM M C ad dx s) (f : ∀ b, b = ad ∨ b = dx → M' b = M b) : NearM M' C ad dx s := ⟨(f ad (.inl rfl)).trans h.a, (f dx (.inr rfl)).trans h.d⟩
end
def FNearInit (C : Addr) : MSp := fun ss M Φ => ∃ (ad dx : Addr) (who : Str) (b : Book), ss = [.v (.ref ad), .d (.str who), .d (dBook b)] ∧ M ad = some (.ins C dx []) ∧
  Φ (.d .none) (mup M ad (nearO C dx ⟨who, b, 0, [], 0⟩))
def FNearDo (C : Addr) : MSp := fun ss M Φ => ∃ (ad dx : Addr) (s : NearS) (c : Chg), ss = [.v (.ref ad), .d (dChg c)] ∧ NearM M C ad dx s ∧ s.own.length ≤ 10000 ∧ Φ (.d .none) (mup M ad (nearO C dx (s.do_ c)))
def FNearBase (C : Addr) : RSp := fun ss M d => ∃ (ad dx : Addr) (s : NearS), ss = [.v (.ref ad)] ∧ NearM M C ad dx s ∧ d = dBook s.now
def FNearBook (C : Addr) : RSp := fun ss M d => ∃ (ad dx : Addr) (s : NearS), ss = [.v (.ref ad)] ∧ NearM M C ad dx s ∧ s.now.length ≤ 1000 ∧ s.own.length ≤ 1000 ∧ d = dBook (doneA s.now s.own)
def dSend (s : NearS) : D := .tuple [.str s.who, .int s.first, dRow s.own]
def FNearSend (C : Addr) : RSp := fun ss M d => ∃ (ad dx : Addr) (s : NearS), ss = [.v (.ref ad)] ∧ NearM M C ad dx s ∧ d = dSend s
def FNearKnown (C : Addr) : RSp := fun ss M d => ∃ (ad dx : Addr) (s : NearS), ss = [.v (.ref ad)] ∧ NearM M C ad dx s ∧ d = .int s.number
def FNearWait (C : Addr) : RSp := fun ss M d => ∃ (ad dx : Addr) (s : NearS), ss = [.v (.ref ad)] ∧ NearM M C ad dx s ∧ d = .int (s.own.length : Int)
def FNearKnow (C G : Addr) : MSpX := fun ss M Φ Ψ => ∃ (ad dx : Addr) (s : NearS) (l : List LRow), ss = [.v (.ref ad), .d (dLog l)] ∧ NearM M C ad dx s ∧ KeysND s.now ∧ s.now.length + l.length ≤ 1000 ∧
  (s.gap l = true → Ψ (.ref G) M) ∧ (s.gap l = false → Φ (.d .none) (mup M ad (nearO C dx (s.knows l))))
/-- the class Near -/
structure NearC (K : Fg) (C : Addr) : Prop where
  c : Cls K C
  who : NoAttr K C "who"
  now : NoAttr K C "now"
  number : NoAttr K C "number"
  own : NoAttr K C "own"
  first : NoAttr K C "first"
theorem lrow_inj (x y : LRow) (h : dLRow x = dLRow y) : x = y := by
  obtain ⟨n, who, at_, c⟩ := x
  obtain ⟨n', who', at_', c'⟩ := y
  unfold dLRow at h
  injection h with h
  injection h with h1 h
  injection h with h2 h
  injection h with h3 h
  injection h with h4 h
  injection h1 with h1
  injection h2 with h2
  injection h3 with h3
  have h4 := dChg_inj h4
  simp only at h1 h2 h3 h4
  rw [h1, h2, h3, h4]
theorem knows_ok : ∀ (l : List LRow) (s : NearS), KeysND s.now → KeysND (l.foldl NearS.know1 s).now ∧ (l.foldl NearS.know1 s).now.length ≤ s.now.length + l.length ∧ (l.foldl NearS.know1 s).who = s.who
  | [], s, h => ⟨h, Nat.le_refl _, rfl⟩
  | x :: l, s, h => by
    have h1 := done_len h [x.c]
    have h2 := knows_ok l (s.know1 x) (done_ok h [x.c]).nd
    refine ⟨h2.1, Nat.le_trans h2.2.1 ?_, h2.2.2⟩
    show (doneA s.now [x.c]).length + l.length ≤ _
    rw [List.length_cons]
    have : [x.c].length = 1 := rfl
    omega
end AB
namespace AB
open PySem L2
/-! ### the law's own near book (k51) -/
theorem cut_two {α : Type} (xs : List α) (i j : Nat) (h : i ≤ j) : cutD xs (some (i : Int)) (some (j : Int)) = (xs.take j).drop i := by
  unfold cutD
  rw [sIx_nat, sIx_nat, List.drop_take]
  by_cases hi : i ≤ xs.length
  · by_cases hj : j ≤ xs.length
    · rw [Nat.min_eq_left hi, Nat.min_eq_left hj]
    · rw [Nat.min_eq_left hi, Nat.min_eq_right (by omega), List.take_of_length_le (by rw [List.length_drop]; omega), List.take_of_length_le (by rw [List.length_drop]; omega)]
  · rw [Nat.min_eq_right (by omega), Nat.min_eq_right (by omega), List.drop_eq_nil_of_le (by omega), List.drop_eq_nil_of_le (by omega), List.take_nil, List.take_nil]
def byN (who : Str) (l : List LRow) : Nat := (l.filter fun x => decide (x.who = who)).length
theorem fm_c (l : List LRow) : (l.map dLRow).filterMap (decF dLRow fun x => some (dChg x.c)) = (l.map (·.c)).map dChg := by
  rw [fm_dec lrow_inj, List.map_map, ← List.filterMap_eq_map]; rfl
theorem byN_app (who : Str) (l r : List LRow) : byN who (l ++ r) = byN who l + byN who r := by unfold byN; rw [List.filter_append, List.length_append]
theorem byN_one (who : Str) (x : LRow) : byN who [x] = if x.who = who then 1 else 0 := by
  unfold byN
  by_cases h : x.who = who
  · simp [h]
  · simp [h]
theorem byN_le (who : Str) (l : List LRow) (k : Nat) : byN who (l.take k) ≤ byN who l := by
  have := byN_app who (l.take k) (l.drop k)
  rw [List.take_append_drop] at this
  omega
theorem byN_len (who : Str) (l : List LRow) : byN who l ≤ l.length := List.length_filter_le _ _
/-- what a near book of who is that knows k rows of a log -/
def nearAt (who : Str) (b : Book) (own : List Chg) (rows : List LRow) (k : Nat) : NearS := ⟨who, doneA b ((rows.take k).map (·.c)), (k : Int), own.drop (byN who (rows.take k)), (byN who (rows.take k) : Int)⟩
structure RowsOk (rows : List LRow) : Prop where
  n : ∀ (j : Nat) (x : LRow), rows[j]? = some x → x.n = (j : Int) + 1
  at_ : ∀ (j : Nat) (x : LRow), rows[j]? = some x → x.at_ = (byN x.who (rows.take j) : Int)
structure NOk (b : Book) (own : List Chg) (rows : List LRow) (sent i : Nat) : Prop where
  hb : BookIn abcdK b
  hown : ∀ c ∈ own, ChgIn abcdK c
  ol : own.length ≤ i
  rl : rows.length ≤ i
  r : RowsOk rows
  lg : ∀ x ∈ rows, ChgIn abcdK x.c ∧ KeyOk x.who
  se : sent = byN "me" rows
  le : sent ≤ own.length
theorem near_do {who : Str} {b : Book} {own : List Chg} {rows : List LRow} {k : Nat} (h : byN who (rows.take k) ≤ own.length) (c : Chg) : nearAt who b (own ++ [c]) rows k = (nearAt who b own rows k).do_ c := by
  unfold nearAt NearS.do_
  simp only
  rw [List.drop_append_of_le_length h]
theorem near_more {who : Str} {b : Book} {own : List Chg} {rows : List LRow} {k : Nat} (h : k ≤ rows.length) (x : LRow) : nearAt who b own (rows ++ [x]) k = nearAt who b own rows k := by
  unfold nearAt
  rw [List.take_append_of_le_length h]
theorem near_1 {who : Str} {b : Book} {own : List Chg} {rows : List LRow} (hb : KeysND b) (R : RowsOk rows) {j : Nat} {x : LRow} (hx : rows[j]? = some x) : (nearAt who b own rows j).know1 x = nearAt who b own rows (j + 1) := by
  have et : rows.take (j + 1) = rows.take j ++ [x] := by rw [List.take_succ, hx]; rfl
  have e1 := R.n j x hx
  have e2 := R.at_ j x hx
  unfold nearAt NearS.know1
  simp only
  rw [et, byN_app, byN_one, List.map_append, ← done_app hb]
  by_cases h : x.who = who
  · rw [if_pos h, if_pos h, if_pos h, List.drop_drop, e1, e2, h]
    congr 1
  · rw [if_neg h, if_neg h, if_neg h, e1, Nat.add_zero]
    congr 1
theorem near_fold {who : Str} {b : Book} {own : List Chg} {rows : List LRow} (hb : KeysND b) (R : RowsOk rows) {k : Nat} : ∀ d : Nat, k + d ≤ rows.length → ((rows.take (k + d)).drop k).foldl NearS.know1 (nearAt who b own rows k) = nearAt who b own rows (k + d)
  | 0, _ => by rw [Nat.add_zero, List.drop_eq_nil_of_le (by rw [List.length_take]; omega)]; rfl
  | d + 1, h => by
    obtain ⟨x, hx⟩ : ∃ x, rows[k + d]? = some x := ⟨_, List.getElem?_eq_getElem (by omega)⟩
    have et : rows.take (k + (d + 1)) = rows.take (k + d) ++ [x] := by rw [show k + (d + 1) = k + d + 1 by omega, List.take_succ, hx]; rfl
    rw [et, List.drop_append_of_le_length (by rw [List.length_take]; omega), List.foldl_append, near_fold hb R d (by omega)]
    exact near_1 hb R hx
theorem filter_num : ∀ (l : List LRow) (base k : Nat), (∀ (j : Nat) (x : LRow), l[j]? = some x → x.n = (base : Int) + (j : Int) + 1) → l.filter (fun x => decide ((k : Int) < x.n)) = l.drop (k - base)
  | [], base, k, _ => by rw [List.drop_nil]; rfl
  | x :: r, base, k, h => by
    have hx := h 0 x rfl
    have ih := filter_num r (base + 1) k fun j y hy => by have := h (j + 1) y hy; omega
    by_cases hk : k ≤ base
    · have e : decide ((k : Int) < x.n) = true := decide_eq_true (by omega)
      rw [List.filter_cons, e, if_pos rfl, ih, show k - base = 0 by omega, show k - (base + 1) = 0 by omega]; rfl
    · have e : decide ((k : Int) < x.n) = false := decide_eq_false (by omega)
      rw [List.filter_cons, e, if_neg (by decide), ih, show k - base = (k - (base + 1)) + 1 by omega]; rfl
theorem near_new {who : Str} {b : Book} {own : List Chg} {rows : List LRow} (R : RowsOk rows) (k lo hi : Nat) : (nearAt who b own rows k).new ((rows.take hi).drop lo) = (rows.take hi).drop (max lo k) := by
  have := filter_num ((rows.take hi).drop lo) lo k fun j x hx => by
    rw [List.getElem?_drop, List.getElem?_take] at hx
    split at hx
    · have := R.n _ _ hx; omega
    · cases hx
  show List.filter _ _ = _
  rw [show (nearAt who b own rows k).number = (k : Int) from rfl, this, List.drop_drop]
  congr 1
  omega
theorem head_n {rows : List LRow} (R : RowsOk rows) {lo hi : Nat} {x : LRow} {r : List LRow} (h : (rows.take hi).drop lo = x :: r) : x.n = (lo : Int) + 1 ∧ lo < hi ∧ lo < rows.length := by
  have h0 : ((rows.take hi).drop lo)[0]? = some x := by rw [h]; rfl
  rw [List.getElem?_drop, List.getElem?_take] at h0
  split at h0
  · have := R.n _ _ h0
    have := (List.getElem?_eq_some_iff.mp h0).1
    omega
  · cases h0
/-- rows known: too early -/
theorem know_gap {who : Str} {b : Book} {own : List Chg} {rows : List LRow} (R : RowsOk rows) {k lo hi : Nat} {x : LRow} {r : List LRow} (h : (rows.take hi).drop lo = x :: r) (hk : k < lo) : (nearAt who b own rows k).gap ((rows.take hi).drop lo) = true := by
  unfold NearS.gap
  rw [near_new R, show max lo k = lo by omega, h]
  have := (head_n R h).1
  show (!decide (x.n = (k : Int) + 1)) = true
  rw [decide_eq_false (by omega)]; rfl
/-- rows known: in time -/
theorem know_ok {who : Str} {b : Book} {own : List Chg} {rows : List LRow} (hb : KeysND b) (R : RowsOk rows) {k lo hi : Nat} (hk : lo ≤ k) (kl : k ≤ rows.length) : (nearAt who b own rows k).gap ((rows.take hi).drop lo) = false ∧ (nearAt who b own rows k).knows ((rows.take hi).drop lo) = nearAt who b own rows (max k (min hi rows.length)) := by
  have e : (nearAt who b own rows k).new ((rows.take hi).drop lo) = (rows.take hi).drop k := by rw [near_new R, show max lo k = k by omega]
  refine ⟨?_, ?_⟩
  · unfold NearS.gap
    rw [e]
    cases h : (rows.take hi).drop k with
    | nil => rfl
    | cons x r =>
      have := (head_n R h).1
      show (!decide (x.n = (k : Int) + 1)) = false
      rw [decide_eq_true this]; rfl
  · unfold NearS.knows
    rw [e]
    by_cases h : min hi rows.length ≤ k
    · rw [List.drop_eq_nil_of_le (by rw [List.length_take]; omega), Nat.max_eq_left h]; rfl
    · have := near_fold (who := who) (own := own) hb R (k := k) (min hi rows.length - k) (by omega)
      rw [show k + (min hi rows.length - k) = min hi rows.length by omega] at this
      rw [show rows.take hi = rows.take (min hi rows.length) by
        by_cases h2 : hi ≤ rows.length
        · rw [Nat.min_eq_left h2]
        · rw [Nat.min_eq_right (by omega), List.take_length, List.take_of_length_le (by omega)], this, Nat.max_eq_right (by omega)]
theorem last_n {rows : List LRow} (R : RowsOk rows) {lo hi : Nat} {x : LRow} {r : List LRow} (h : (rows.take hi).drop lo = x :: r) : ∃ y : LRow, atI ((x :: r).map dLRow) ((((x :: r).map dLRow).length : Int) - 1) = some (dLRow y) ∧ y.n = ((min hi rows.length : Nat) : Int) := by
  obtain ⟨_, h1, h2⟩ := head_n R h
  have hl : (x :: r).length = min hi rows.length - lo := by rw [← h, List.length_drop, List.length_take]
  obtain ⟨y, hy⟩ : ∃ y, rows[min hi rows.length - 1]? = some y := ⟨_, List.getElem?_eq_getElem (by omega)⟩
  have e : (x :: r)[min hi rows.length - lo - 1]? = some y := by
    rw [← h, List.getElem?_drop, List.getElem?_take, if_pos (by omega), ← hy]
    congr 1
    omega
  refine ⟨y, atI_map e (by rw [List.length_map, hl]; omega), ?_⟩
  have := R.n _ _ hy
  omega
theorem know_nil {who : Str} {b : Book} {own : List Chg} {rows : List LRow} {k : Nat} : (nearAt who b own rows k).gap [] = false ∧ (nearAt who b own rows k).knows [] = nearAt who b own rows k := ⟨rfl, rfl⟩
/-- a row more -/
theorem RowsOk.app {rows : List LRow} (R : RowsOk rows) {x : LRow} (hn : x.n = (rows.length : Int) + 1) (ha : x.at_ = (byN x.who rows : Int)) : RowsOk (rows ++ [x]) := by
  have key : ∀ (j : Nat) (y : LRow), (rows ++ [x])[j]? = some y → (rows[j]? = some y ∧ j < rows.length) ∨ (j = rows.length ∧ y = x) := fun j y hy => by
    by_cases h : j < rows.length
    · rw [List.getElem?_append_left h] at hy; exact .inl ⟨hy, h⟩
    · rw [List.getElem?_append_right (by omega)] at hy
      have hj := (List.getElem?_eq_some_iff.mp hy).1
      have e : j = rows.length := by have : [x].length = 1 := rfl; omega
      subst e
      rw [Nat.sub_self] at hy
      exact .inr ⟨rfl, (Option.some.inj hy).symm⟩
  refine ⟨fun j y hy => ?_, fun j y hy => ?_⟩
  · rcases key j y hy with ⟨h, _⟩ | ⟨rfl, rfl⟩
    · exact R.n j y h
    · exact hn
  · rcases key j y hy with ⟨h, hl⟩ | ⟨rfl, rfl⟩
    · rw [List.take_append_of_le_length (by omega)]; exact R.at_ j y h
    · rw [List.take_append_of_le_length (Nat.le_refl _), List.take_length]; exact ha
def FYours : List D → D → Prop := fun ds d => ∃ (rows : List LRow) (c : Chg), ds = [dLog rows, dChg c] ∧ rows.length ≤ 1000 ∧ d = dLog (rows ++ [⟨(rows.length : Int) + 1, "you", (byN "you" rows : Int), c⟩])
def FLawDoneB : List D → D → Prop := fun ds d => ∃ (S : List Str) (b : Book) (cs : List Chg) (q : D), ds = [dBook b, q] ∧ (q = dRow cs ∨ q = .list (cs.map dChg)) ∧ BookIn S b ∧ S.length ≤ 1000 ∧ (∀ c ∈ cs, ChgIn S c) ∧ d = dBook (lawDone b cs)
theorem NOk.up {b : Book} {own : List Chg} {rows : List LRow} {sent i : Nat} (h : NOk b own rows sent i) : NOk b own rows sent (i + 1) := ⟨h.hb, h.hown, by have := h.ol; omega, by have := h.rl; omega, h.r, h.lg, h.se, h.le⟩
theorem NOk.do_ {b : Book} {own : List Chg} {rows : List LRow} {sent i : Nat} (h : NOk b own rows sent i) {c : Chg} (hc : ChgIn abcdK c) : NOk b (own ++ [c]) rows sent (i + 1) := by
  refine ⟨h.hb, fun x hx => ?_, by have := h.ol; rw [List.length_append]; simp; omega, by have := h.rl; omega, h.r, h.lg, h.se, by have := h.le; rw [List.length_append]; omega⟩
  rcases List.mem_append.mp hx with hx | hx
  · exact h.hown x hx
  · rw [List.mem_singleton.mp hx]; exact hc
theorem NOk.row {b : Book} {own : List Chg} {rows : List LRow} {sent i : Nat} (h : NOk b own rows sent i) {x : LRow} (hn : x.n = (rows.length : Int) + 1) (ha : x.at_ = (byN x.who rows : Int)) (hc : ChgIn abcdK x.c) (hk : KeyOk x.who) {sent' : Nat} (hs : sent' = byN "me" (rows ++ [x])) (hl : sent' ≤ own.length) : NOk b own (rows ++ [x]) sent' (i + 1) := by
  refine ⟨h.hb, h.hown, by have := h.ol; omega, by have := h.rl; rw [List.length_append]; simp; omega, h.r.app hn ha, fun y hy => ?_, hs, hl⟩
  rcases List.mem_append.mp hy with hy | hy
  · exact h.lg y hy
  · rw [List.mem_singleton.mp hy]; exact ⟨hc, hk⟩
end AB
namespace AB
open PySem PySem.Spec PyProof.Rows L2 LamX
/-! ### x, y = a, b, with things of one's own -/
section
variable {X : Cx} {ρ : Env} {M : Mem} {pos : Pos} {a b c : Expr} {Φ : Post}
theorem ds_par2X (i j : Nat) {x y : Str} {px py pt pt2 : Pos} {kt k2 : Nat} (hc : X.calm = true) (hN : X.N.Nodup) (hij : i ≠ j) (ha : PXs X [a, b] ρ M fun ss M1 => ∃ s1 s2, ss = [s1, s2] ∧ Φ.nx ((ρ.set i s1).set j s2) M1) (hi : X.N[i]? = some x := by rfl) (hj : X.N[j]? = some y := by rfl)
    (hx : X.env.scope.names.lookup x = some .local := by rfl) (hy : X.env.scope.names.lookup y = some .local := by rfl) (hw : swappedStores [.Tuple [.Name x px, .Name y py] kt pt] (.Tuple [a, b] k2 pt2) X.env = pure (some [x, y]) := by rfl)
    (hs : swapsWithSole [.Tuple [.Name x px, .Name y py] kt pt] (.Tuple [a, b] k2 pt2) pos.line X.env = pure false := by rfl) : DS X (.Assign [.Tuple [.Name x px, .Name y py] kt pt] (.Tuple [a, b] k2 pt2) pos) ρ M Φ :=
  ⟨fun Hs H σ E r q A => PS.w (ps_par hc hN hi hj hij hx hy pa_w hw hs) (ha.run Hs H σ _ r q fun vs ss Hs1 H1 M1 r1 f1 p ⟨s1, s2, e, h⟩ => by
    subst e
    cases p with
    | cons p1 p2 => cases p2 with
      | cons p2 p3 =>
        cases p3
        exact ⟨_, _, rfl, A.nx Hs1 H1 M1 _ _ r1 f1 (((q.mono f1.s).set i (s := s1) p1).set j (s := s2) p2) h⟩)⟩
/-- the same, where a name is one that a lambda sees: stored from the left -/
theorem ds_tup2X (i j : Nat) {x y : Str} {px py pt pt2 : Pos} {kt k2 : Nat} (hc : X.calm = true) (hN : X.N.Nodup) (ha : PXs X [a, b] ρ M fun ss M1 => ∃ s1 s2, ss = [s1, s2] ∧ Φ.nx ((ρ.set i s1).set j s2) M1) (hi : X.N[i]? = some x := by rfl) (hj : X.N[j]? = some y := by rfl)
    (hx : Loc X.env.scope x := by first | exact Or.inl rfl | exact Or.inr rfl) (hy : Loc X.env.scope y := by first | exact Or.inl rfl | exact Or.inr rfl)
    (hfx : X.fn x = true ∨ X.env.scope.names.lookup x = some .local := by first | exact .inl rfl | exact .inr rfl | assumption) (hfy : X.fn y = true ∨ X.env.scope.names.lookup y = some .local := by first | exact .inl rfl | exact .inr rfl | assumption)
    (hw : swappedStores [.Tuple [.Name x px, .Name y py] kt pt] (.Tuple [a, b] k2 pt2) X.env = pure none := by rfl)
    (hs : swapsWithSole [.Tuple [.Name x px, .Name y py] kt pt] (.Tuple [a, b] k2 pt2) pos.line X.env = pure false := by rfl) (h1 : (assignEach [.Tuple [.Name x px, .Name y py] kt pt] X.env).map (·.2) = [assign (.Tuple [.Name x px, .Name y py] kt pt) X.env] := by rfl) : DS X (.Assign [.Tuple [.Name x px, .Name y py] kt pt] (.Tuple [a, b] k2 pt2) pos) ρ M Φ :=
  ⟨fun Hs H σ E r q A => PS.w (ps_asg (pe_tupF pa_w) (pg_tup (n := 2) hc (pgs_cons (pg_name hN hi hx hfx) (pgs_cons (pg_name hN hj hy hfy) pgs_nil))) hs hw h1) (ha.run Hs H σ _ r q fun vs ss Hs1 H1 M1 r1 f1 p ⟨s1, s2, e, h⟩ => by
    subst e
    cases p with
    | cons p1 p2 => cases p2 with
      | cons p2 p3 =>
        cases p3
        refine ⟨by show (2 : Nat) ≤ sizeLine; decide, fun l o hl ho => ⟨l, _, rfl, (PlT.of upd_same ho).sq, rfl, _, _, rfl, _, _, rfl, rfl, ?_⟩⟩
        exact A.nx Hs1 _ M1 _ _ (r1.grow (.newH r1.i hl)) (f1.trans (Grow.fr (.newH r1.i hl))) (((q.mono f1.s).set i (s := s1) p1).set j (s := s2) p2) h)⟩
theorem ds_tup3X (i j l : Nat) {x y z : Str} {px py pz pt pt2 : Pos} {kt k2 : Nat} (hc : X.calm = true) (hN : X.N.Nodup) (ha : PXs X [a, b, c] ρ M fun ss M1 => ∃ s1 s2 s3, ss = [s1, s2, s3] ∧ Φ.nx (((ρ.set i s1).set j s2).set l s3) M1) (hi : X.N[i]? = some x := by rfl) (hj : X.N[j]? = some y := by rfl) (hl : X.N[l]? = some z := by rfl)
    (hx : Loc X.env.scope x := by first | exact Or.inl rfl | exact Or.inr rfl) (hy : Loc X.env.scope y := by first | exact Or.inl rfl | exact Or.inr rfl) (hz : Loc X.env.scope z := by first | exact Or.inl rfl | exact Or.inr rfl)
    (hfx : X.fn x = true ∨ X.env.scope.names.lookup x = some .local := by first | exact .inl rfl | exact .inr rfl | assumption) (hfy : X.fn y = true ∨ X.env.scope.names.lookup y = some .local := by first | exact .inl rfl | exact .inr rfl | assumption) (hfz : X.fn z = true ∨ X.env.scope.names.lookup z = some .local := by first | exact .inl rfl | exact .inr rfl | assumption)
    (hw : swappedStores [.Tuple [.Name x px, .Name y py, .Name z pz] kt pt] (.Tuple [a, b, c] k2 pt2) X.env = pure none := by rfl)
    (hs : swapsWithSole [.Tuple [.Name x px, .Name y py, .Name z pz] kt pt] (.Tuple [a, b, c] k2 pt2) pos.line X.env = pure false := by rfl) (h1 : (assignEach [.Tuple [.Name x px, .Name y py, .Name z pz] kt pt] X.env).map (·.2) = [assign (.Tuple [.Name x px, .Name y py, .Name z pz] kt pt) X.env] := by rfl) : DS X (.Assign [.Tuple [.Name x px, .Name y py, .Name z pz] kt pt] (.Tuple [a, b, c] k2 pt2) pos) ρ M Φ :=
  ⟨fun Hs H σ E r q A => PS.w (ps_asg (pe_tupF pa_w) (pg_tup (n := 3) hc (pgs_cons (pg_name hN hi hx hfx) (pgs_cons (pg_name hN hj hy hfy) (pgs_cons (pg_name hN hl hz hfz) pgs_nil)))) hs hw h1) (ha.run Hs H σ _ r q fun vs ss Hs1 H1 M1 r1 f1 p ⟨s1, s2, s3, e, h⟩ => by
    subst e
    cases p with
    | cons p1 p2 => cases p2 with
      | cons p2 p3 => cases p3 with
        | cons p3 p4 =>
          cases p4
          refine ⟨by show (3 : Nat) ≤ sizeLine; decide, fun l' o hl' ho => ⟨l', _, rfl, (PlT.of upd_same ho).sq, rfl, _, _, rfl, _, _, rfl, _, _, rfl, rfl, ?_⟩⟩
          exact A.nx Hs1 _ M1 _ _ (r1.grow (.newH r1.i hl')) (f1.trans (Grow.fr (.newH r1.i hl'))) ((((q.mono f1.s).set i (s := s1) p1).set j (s := s2) p2).set l (s := s3) p3) h)⟩
end
/-! ### defs that read things of one's own -/
structure DefR (P : Program) (w : World) (K : Fg) (mg : Str → Option Value) (base : Heap) (k : Nat) (x : Str) (ps : List Str) (F : RSp) : Prop where
  ex : ∃ f fd, FnOk P w K mg base CX0 k f fd ps (spR K F) ∧ mg x = some (.ref f) ∧ PySem.W.keepIn K (.ref f) = true ∧ Binds K fd ps []
/-- arguments, known by data or by what they are; nothing is changed -/
structure PAs (X : Cx) (es : List Expr) (ρ : Env) (M : Mem) (ss : List Sl) : Prop where
  run : ∀ (Hs H : Hp) (σ : L2.St) (Q : List V → Hp → Prop), RelM X.K Hs H M → EnvR X.K Hs σ ρ → (∀ vs Hs' H', Grow Hs H Hs' H' → Paired (SlV X.K Hs') vs ss → Q vs H') → tWa X es σ H Q
section
variable {X : Cx} {ρ : Env} {M : Mem} {pos p : Pos} {e : Expr} {es : List Expr} {d : D} {ds : List D} {ss : List Sl} {v : V}
theorem pas_nil : PAs X [] ρ M [] := ⟨fun Hs H σ Q r q k => PA.w pa_nil (k [] Hs H (.refl r.i) .nil)⟩
theorem pas_d (ha : PD X e ρ M d) (hr : PAs X es ρ M ss) (hs : starEach (e :: es) X.env = (false, eval e X.env) :: starEach es X.env := by rfl) : PAs X (e :: es) ρ M (.d d :: ss) :=
  ⟨fun Hs H σ Q r q k => PA.w (pa_cons pe_w pa_w hs) (ha.run Hs H σ _ r q fun v Hs1 H1 g1 p1 => hr.run Hs1 H1 σ _ (r.grow g1) (q.mono g1.s) fun vs Hs2 H2 g2 p2 => k _ Hs2 H2 (g1.trans g2) (.cons (slv_d (dp_mono g2.s p1)) p2))⟩
theorem pas_v (ha : PV X e ρ M v) (hr : PAs X es ρ M ss) (hs : starEach (e :: es) X.env = (false, eval e X.env) :: starEach es X.env := by rfl) : PAs X (e :: es) ρ M (.v v :: ss) :=
  ⟨fun Hs H σ Q r q k => PA.w (pa_cons pe_w pa_w hs) (ha.run Hs H σ _ r q fun Hs1 H1 g1 => hr.run Hs1 H1 σ _ (r.grow g1) (q.mono g1.s) fun vs Hs2 H2 g2 p2 => k _ Hs2 H2 (g1.trans g2) (.cons slv_v p2))⟩
theorem pd_callR {k : Nat} {x : Str} {ps : List Str} {F : RSp} (h : DefR X.prog X.w X.K X.mg X.base k x ps F) (hr : Room k X.A) (hg : Gl X x) (ha : PAs X (e :: es) ρ M ss) (hF : F ss M d)
    (hdb : (x == ("__debug__" : Str)) = false := by decide) (he : starEach (e :: es) X.env = (false, eval e X.env) :: starEach es X.env := by rfl) (hpl : (backTo pos (starEach es X.env)).any (·.1) = false := by rfl) : PD X (.Call (.Name x p) (e :: es) [] pos) ρ M d := by
  obtain ⟨f, fd, F1, hm, hk, hb⟩ := h.ex
  exact pd_of (pe_call F1 hr hg hm hk hb .nil pass0 pa_w hdb he hpl) fun Hs H σ Q r q k => ha.run Hs H σ _ r q fun vs Hs1 H1 g1 p1 => ⟨Hs1, M, ss, d, r.grow g1, by rw [List.append_nil]; exact p1, hF, fun v Hs2 H2 g2 p2 => k v Hs2 H2 (g1.trans g2) p2⟩
theorem def_okR {P : Program} {w : World} {K : Fg} {mg : Str → Option Value} {base : Heap} {x : Str} {st : Stmt} {N ps : List Str} {k : Nat} {F : RSp} (h : Dfn K mg x st ps) (S : FnScope N ps (defScope st)) (len : ∀ ss M d, F ss M d → ss.length = ps.length)
    (body : ∀ (f : Addr) (cdv : Value) (A : Around) (outer : List PySem.Env) (s : Shared) (H : Hp) (E : XK) (ss : List Sl) (M : Mem) (d : D), Room k (A.deeper (PyProof.Rows.envOfC x (defScope st) s.heap.objs.size f cdv)) → F ss M d →
      GDs (bCx P w K mg base N x st f cdv A outer s H E) (defBody st) (entryS N ss) M d) : DefR P w K mg base (k + 1) x ps F := by
  obtain ⟨f, fd, h1, h2, h3⟩ := h.ex
  exact ⟨f, fd, fn_okR h1 S len (body f), h2, h1.kp, h3⟩
end
end AB
namespace AB
open PySem PySem.Spec PyProof.Rows L2 LamX
section
variable {X : Cx} {ρ : Env} {M : Mem} {a b e o : Expr} {es : List Expr} {pos p p2 apos : Pos} {d : D} {C dx ad : Addr} {gs : List (Str × Sl)}
theorem boot_min : bootBuiltins "min" = some (.builtin "min") := by decide +kernel
theorem pd_min {i j : Int} (hc : X.calm = true) (hg : Gl X "min") (hm : X.mg "min" = none) (ha : PD X a ρ M (.int i)) (hb : PD X b ρ M (.int j)) (hs : starEach [a, b] X.env = (false, eval a X.env) :: starEach [b] X.env := by rfl) (hs2 : starEach [b] X.env = (false, eval b X.env) :: starEach [] X.env := by rfl) (hpl : (backTo pos (starEach [b] X.env)).any (·.1) = false := by rfl) :
    PD X (.Call (.Name "min" p) [a, b] [] pos) ρ M (.int (if j < i then j else i)) :=
  pd_callB (call_min2 hc) (fun Hs H vs Q s p k => by
    cases p with
    | cons h1 h2 =>
      cases h2 with
      | cons h3 h4 =>
        cases h4
        exact ⟨i, j, by rw [dp_int h1, dp_int h3], k _ Hs H (.refl s) (.int _)⟩) hg hm boot_min (pds_cons ha (pds_cons hb pds_nil hs2) hs) (by decide) (by decide) hs hpl
/-- list(range(a, b)) -/
theorem pd_listRg {i j : Int} {pr : Pos} (hc : X.calm = true) (hgl : Gl X "list") (hml : X.mg "list" = none) (hg : Gl X "range") (hm : X.mg "range" = none) (ha : PD X a ρ M (.int i)) (hb : PD X b ρ M (.int j)) (ok : RgOk i j)
    (na : starEach [a, b] X.env = (false, eval a X.env) :: starEach [b] X.env := by rfl) (nb : starEach [b] X.env = (false, eval b X.env) :: starEach [] X.env := by rfl) (hp : (backTo p2 (starEach [b] X.env)).any (·.1) = false := by rfl)
    (hs : starEach [.Call (.Name "range" pr) [a, b] [] p2] X.env = (false, eval (.Call (.Name "range" pr) [a, b] [] p2) X.env) :: starEach [] X.env := by rfl) :
    PD X (.Call (.Name "list" p) [.Call (.Name "range" pr) [a, b] [] p2] [] pos) ρ M (.list ((List.range (j - i).toNat).map fun k => .int (i + (k : Nat)))) :=
  pd_of (pe_listRg hc hgl hml (prg_2 hg hm pe_w pe_w na nb hp) hs) fun Hs H σ Q r q k => ha.run Hs H σ _ r q fun v Hs1 H1 g1 p1 => hb.run Hs1 H1 σ _ (r.grow g1) (q.mono g1.s) fun u Hs2 H2 g2 p2 => ⟨i, j, dp_int p1, dp_int p2, ok, fun l hl => by
    have g := g1.trans g2
    refine k _ (upd Hs2 l (.lst (rgV i j))) _ (g.trans (.new g.i hl)) (.lst (.inl (.of upd_same)) ?_)
    generalize upd Hs2 l (.lst (rgV i j)) = HH
    unfold rgV
    generalize List.range (j - i).toNat = ks
    induction ks with
    | nil => exact .nil
    | cons x ks ih => exact .cons (.int _) ih⟩
/-- [e] * n -/
theorem pd_rep1 {n : Int} {pl : Pos} (ha : PD X e ρ M d) (hb : PD X b ρ M (.int n)) (hn : n.toNat ≤ sizeLine) (h1 : -(2 ^ 63) ≤ n) (h2 : n < 2 ^ 63) (hs : starEach [e] X.env = (false, eval e X.env) :: starEach [] X.env := by rfl) : PD X (.BinOp (.List [e] pl) .Mult b pos) ρ M (.list (List.replicate n.toNat d)) :=
  pd_of (pe_op op_rep (pe_lst (pa_cons pe_w pa_nil hs)) pe_w) fun Hs H σ Q r q k => ha.run Hs H σ _ r q fun v Hs1 H1 g1 p1 => ⟨by show (1 : Nat) ≤ sizeLine; decide, fun l hl => by
    have g2 : Grow Hs1 H1 (upd Hs1 l (.lst [v])) (upd H1 l (.lst [v])) := .new g1.i hl
    refine hb.run _ _ σ _ (r.grow (g1.trans g2)) (q.mono (g1.trans g2).s) fun u Hs3 H3 g3 p3 => ?_
    have e3 : H3 l = some (.lst [v]) := g3.i _ _ (g3.s _ _ upd_same)
    refine ⟨l, n, [v], rfl, dp_int p3, e3, h1, h2, by show 1 * n.toNat ≤ _; omega, fun z hz => ?_⟩
    have g := (g1.trans g2).trans g3
    have pv := dp_mono (g2.trans g3).s p1
    refine k _ _ _ (g.trans (.new g.i hz)) (.lst (.inl (.of upd_same)) (dpAll_mono (same_upd (g.i.free hz)) ?_))
    generalize n.toNat = m
    induction m with
    | zero => exact .nil
    | succ m ih => exact .cons pv ih⟩
/-! ### tests that change things -/
theorem ptx_neI {Φ : Bool → Mem → Prop} (h : PX X a ρ M fun s M1 => ∃ i : Int, s = .d (.int i) ∧ PX X b ρ M1 fun s2 M2 => ∃ j : Int, s2 = .d (.int j) ∧ Φ (!decide (i = j)) M2) : PTX X (.Compare a [.NotEq] [b] pos) ρ M Φ :=
  ptx_cmp op_ne (h.imp fun s M1 ⟨i, e1, h2⟩ => ⟨_, e1, h2.imp fun s2 M2 ⟨j, e2, k2⟩ => ⟨_, _, e2, fun Hs H v u Q s p q k => by cases p; cases q; exact ⟨rfl, k _ Hs H (.refl s) (by rw [decV_int]; exact .bl _)⟩, k2⟩⟩)
theorem ptx_ne {Φ : Bool → Mem → Prop} (hu : X.A.units + 64 < cLine) (h : PX X a ρ M fun s M1 => ∃ x, s = .d x ∧ SeqAt.shaped x = true ∧ PX X b ρ M1 fun s2 M2 => ∃ y, s2 = .d y ∧ SeqAt.shaped y = true ∧ Φ (!PyData.eqv x y) M2) : PTX X (.Compare a [.NotEq] [b] pos) ρ M Φ :=
  ptx_cmp (op_neD hu) (h.imp fun s M1 ⟨x, e1, hx, h2⟩ => ⟨_, e1, h2.imp fun s2 M2 ⟨y, e2, hy, k2⟩ => ⟨_, _, e2, rd_neD hx hy, k2⟩⟩)
/-- a method that may raise, where it does not -/
theorem px_methX {k : Nat} {m : Str} {ps : List Str} {F : MSpX} {pl : Sem Bool} {Φ : Sl → Mem → Prop} (h : MetX X.prog X.w X.K X.mg X.base k C m ps F) (c : Cls X.K C) (hr : Room k X.A) (ho : PV X o ρ M (.ref ad)) (hm : M ad = some (.ins C dx gs)) (hn : gs.lookup m = none) (ha : PXs X (e :: es) ρ M fun ss M1 => F (.v (.ref ad) :: ss) M1 Φ fun _ _ => False)
    (hst : starEach (e :: es) X.env = (false, eval e X.env) :: starEach es X.env := by rfl) (hpl : (backTo pos (starEach es X.env)).any (·.1) = false := by rfl)
    (ht : eval (.Call (.Attribute o m apos) (e :: es) [] pos) X.env = (do
      let ov ← eval o X.env
      standAt apos.atName
      let (f, first) ← holding [ov] (getMethod ov m pl)
      callWith pos f first (backTo pos (starEach (e :: es) X.env)) (backToKw pos (keywordEach [] X.env))) := by rfl) : PX X (.Call (.Attribute o m apos) (e :: es) [] pos) ρ M Φ :=
  (pxr_meth (Ψ := fun _ _ => False) h c hr ho hm hn ha hst hpl ht).px fun _ _ h => h
end
end AB
namespace AB
open PySem L2
/-! ### far books side by side -/
def dFar (s : FarS) : D := .tuple [dBook s.now, dLog s.log]
def dNear (s : NearS) : D := .tuple [dBook s.now, dBook (doneA s.now s.own), dSend s, .int s.number, .int (s.own.length : Int)]
def FFarSeen (C : Addr) : RSp := fun ss M d => ∃ (ad dx l cn : Addr) (s : FarS), ss = [.v (.ref ad)] ∧ FarM M C ad dx l cn s ∧ d = dFar s
def FNearSeen (C : Addr) : RSp := fun ss M d => ∃ (ad dx : Addr) (s : NearS), ss = [.v (.ref ad)] ∧ NearM M C ad dx s ∧ s.now.length ≤ 1000 ∧ s.own.length ≤ 1000 ∧ d = dNear s
def Ext (M M' : Mem) : Prop := ∀ b mo, M b = some mo → M' b = some mo
section
variable {M M1 M' : Mem} {C C' ad dx l cn ad' dx' l' cn' : Addr} {s s' : FarS}
theorem Ext.trans {M2 : Mem} (h : Ext M M1) (k : Ext M1 M2) : Ext M M2 := fun b mo e => k b mo (h b mo e)
theorem FarM.ext (h : FarM M C ad dx l cn s) (e : Ext M M') : FarM M' C ad dx l cn s := ⟨e _ _ h.a, e _ _ h.d, e _ _ h.l, e _ _ h.c⟩
theorem NearM.ext {s : NearS} (h : NearM M C ad dx s) (e : Ext M M') : NearM M' C ad dx s := ⟨e _ _ h.a, e _ _ h.d⟩
/-- a new far book changes nothing that is there -/
theorem far_made (ha : M1 ad = none) (hd : M1 dx = none) (hl : mup (mup M1 dx (.own ad)) ad (.ins C dx []) l = none) (hc : mup (mup M1 dx (.own ad)) ad (.ins C dx []) cn = none) (f : FarFr (mup (mup M1 dx (.own ad)) ad (.ins C dx [])) M' ad l cn) : Ext M1 M' ∧ M1 l = none ∧ M1 cn = none := by
  have key : ∀ b, mup (mup M1 dx (.own ad)) ad (.ins C dx []) b = none → M1 b = none := fun b h => by
    have n1 : b ≠ ad := fun z => by rw [z, mup_same] at h; cases h
    have n2 : b ≠ dx := fun z => by rw [mup_ne n1, z, mup_same] at h; cases h
    rw [mup_ne n1, mup_ne n2] at h; exact h
  refine ⟨fun b mo e => ?_, key l hl, key cn hc⟩
  have n1 : b ≠ ad := fun z => by rw [z, ha] at e; cases e
  have n2 : b ≠ dx := fun z => by rw [z, hd] at e; cases e
  have e' : mup (mup M1 dx (.own ad)) ad (.ins C dx []) b = some mo := by rw [mup_ne n1, mup_ne n2]; exact e
  rw [f b n1 (fun z => by rw [z, hl] at e'; cases e') (fun z => by rw [z, hc] at e'; cases e')]
  exact e'
theorem near_made {mo : MO} (ha : M1 ad = none) (hd : M1 dx = none) : Ext M1 (mup (mup (mup M1 dx (.own ad)) ad (.ins C dx [])) ad mo) := fun b o e => by
  have n1 : b ≠ ad := fun z => by rw [z, ha] at e; cases e
  have n2 : b ≠ dx := fun z => by rw [z, hd] at e; cases e
  rw [mup_ne n1, mup_ne n1, mup_ne n2]; exact e
structure FarDis (ad l cn ad' l' cn' : Addr) : Prop where
  a : ad ≠ ad'
  l : l ≠ l'
  c : cn ≠ cn'
theorem FarDis.symm (h : FarDis ad l cn ad' l' cn') : FarDis ad' l' cn' ad l cn := ⟨h.a.symm, h.l.symm, h.c.symm⟩
theorem FarM.dis (h : FarM M C ad dx l cn s) (ha : M ad' = none) (hl : M l' = none) (hc : M cn' = none) : FarDis ad l cn ad' l' cn' := ⟨mne h.a ha, mne h.l hl, mne h.c hc⟩
/-- one changes, the other stands -/
theorem FarM.keep (h : FarM M C ad dx l cn s) (h' : FarM M C' ad' dx' l' cn' s') (d : FarDis ad l cn ad' l' cn') (f : FarFr M M' ad' l' cn') : FarM M' C ad dx l cn s :=
  h.far fun b hb => by
    rcases hb with rfl | rfl | rfl | rfl
    · exact f _ d.a (fun z => by have := h.a; rw [z, h'.l] at this; cases this) (fun z => by have := h.a; rw [z, h'.c] at this; cases this)
    · exact f _ (fun z => by have := h.d; rw [z, h'.a] at this; cases this) (fun z => by have := h.d; rw [z, h'.l] at this; cases this) (fun z => by have := h.d; rw [z, h'.c] at this; cases this)
    · exact f _ (fun z => by have := h.l; rw [z, h'.a] at this; cases this) d.l (fun z => by have := h.l; rw [z, h'.c] at this; cases this)
    · exact f _ (fun z => by have := h.c; rw [z, h'.a] at this; cases this) (fun z => by have := h.c; rw [z, h'.l] at this; cases this) d.c
theorem FarFr.tab (f : FarFr M M' ad l cn) (h : FarM M C ad dx l cn s) {P : Addr} {q : Str} (hP : M P = some (.tab q)) : M' P = some (.tab q) := by
  rw [f P (fun z => by rw [z, h.a] at hP; cases hP) (fun z => by rw [z, h.l] at hP; cases hP) (fun z => by rw [z, h.c] at hP; cases hP)]; exact hP
theorem near_far {st : NearS} (h : NearM M C' ad' dx' st) (h' : FarM M C ad dx l cn s) : ad' ≠ ad := fun z => by
  have e := h.a
  rw [z, h'.a] at e
  injection e with e
  injection e with _ _ e
  unfold nearF at e
  injection e with e _
  injection e with e _
  exact absurd e (by decide +kernel)
theorem NearM.keep {st : NearS} (h : NearM M C' ad' dx' st) (h' : FarM M C ad dx l cn s) (f : FarFr M M' ad l cn) : NearM M' C' ad' dx' st :=
  h.far fun b hb => by
    rcases hb with rfl | rfl
    · exact f _ (near_far h h') (fun z => by have := h.a; rw [z, h'.l] at this; cases this) (fun z => by have := h.a; rw [z, h'.c] at this; cases this)
    · exact f _ (fun z => by have := h.d; rw [z, h'.a] at this; cases this) (fun z => by have := h.d; rw [z, h'.l] at this; cases this) (fun z => by have := h.d; rw [z, h'.c] at this; cases this)
theorem FarM.nkeep {st t : NearS} (h : FarM M C ad dx l cn s) (h' : NearM M C' ad' dx' st) : FarM (mup M ad' (nearO C' dx' t)) C ad dx l cn s :=
  h.far fun b hb => mup_ne (by
    rcases hb with rfl | rfl | rfl | rfl
    · exact (near_far h' h).symm
    · intro z; have := h.d; rw [z, h'.a] at this; cases this
    · intro z; have := h.l; rw [z, h'.a] at this; cases this
    · intro z; have := h.c; rw [z, h'.a] at this; cases this)
theorem NearM.nkeep {st st' t : NearS} (h : NearM M C ad dx st) (h' : NearM M C' ad' dx' st') (n : ad ≠ ad') : NearM (mup M ad' (nearO C' dx' t)) C ad dx st :=
  h.far fun b hb => mup_ne (by
    rcases hb with rfl | rfl
    · exact n
    · intro z; have := h.d; rw [z, h'.a] at this; cases this)
end
/-! ### the log of takings -/
def mkLog (k : Nat) (who : Str) (m : Int) : List Chg → List LRow
  | [] => []
  | c :: cs => ⟨(k : Int) + 1, who, m, c⟩ :: mkLog (k + 1) who (m + 1) cs
theorem mkLog_len : ∀ (cs : List Chg) (k : Nat) (who : Str) (m : Int), (mkLog k who m cs).length = cs.length
  | [], _, _, _ => rfl
  | c :: cs, k, who, m => by show (mkLog (k + 1) who (m + 1) cs).length + 1 = _; rw [mkLog_len cs]; rfl
theorem mkLog_app : ∀ (a b : List Chg) (k : Nat) (who : Str) (m : Int), mkLog k who m (a ++ b) = mkLog k who m a ++ mkLog (k + a.length) who (m + (a.length : Int)) b
  | [], b, k, who, m => by show mkLog k who m b = mkLog (k + 0) who (m + 0) b; rw [Nat.add_zero, Int.add_zero]
  | c :: a, b, k, who, m => by
    show _ :: mkLog (k + 1) who (m + 1) (a ++ b) = _
    rw [mkLog_app a b, List.length_cons, show k + 1 + a.length = k + (a.length + 1) by omega, show m + 1 + (a.length : Int) = m + ((a.length + 1 : Nat) : Int) by omega]
    rfl
theorem mkLog_c : ∀ (cs : List Chg) (k : Nat) (who : Str) (m : Int), (mkLog k who m cs).map (·.c) = cs
  | [], _, _, _ => rfl
  | c :: cs, k, who, m => by show c :: (mkLog (k + 1) who (m + 1) cs).map (·.c) = _; rw [mkLog_c cs]
theorem mkLog_get : ∀ (cs : List Chg) (k : Nat) (who : Str) (m : Int) (j : Nat) (x : LRow), (mkLog k who m cs)[j]? = some x → x.n = (k : Int) + (j : Int) + 1 ∧ x.who = who ∧ x.at_ = m + (j : Int) ∧ cs[j]? = some x.c
  | [], _, _, _, _, _, h => by simp [mkLog] at h
  | c :: cs, k, who, m, 0, x, h => by cases (Option.some.inj h); exact ⟨by simp, rfl, by simp, rfl⟩
  | c :: cs, k, who, m, j + 1, x, h => by
    obtain ⟨h1, h2, h3, h4⟩ := mkLog_get cs (k + 1) who (m + 1) j x h
    exact ⟨by omega, h2, by omega, h4⟩
theorem mkLog_mem {cs : List Chg} {k : Nat} {who : Str} {m : Int} {x : LRow} (h : x ∈ mkLog k who m cs) : x.who = who ∧ x.c ∈ cs := by
  obtain ⟨j, hj⟩ := List.getElem?_of_mem h
  obtain ⟨_, h2, _, h4⟩ := mkLog_get cs k who m j x hj
  exact ⟨h2, List.mem_of_getElem? h4⟩
theorem pushes_eq : ∀ (cs : List Chg) (s : FarS) (who : Str) (m : Int), BookOk s.now → s.pushes who m cs = ⟨doneA s.now cs, s.log ++ mkLog s.log.length who m cs, s.counts⟩
  | [], s, who, m, h => by show s = _; rw [done_nil h]; show s = ⟨s.now, s.log ++ [], s.counts⟩; rw [List.append_nil]
  | c :: cs, s, who, m, h => by
    show (s.push who m c).pushes who (m + 1) cs = _
    rw [pushes_eq cs _ _ _ (done_ok h.nd [c])]
    show FarS.mk (doneA (doneA s.now [c]) cs) ((s.log ++ [_]) ++ mkLog (s.log ++ [_]).length who (m + 1) cs) s.counts = _
    rw [done_app h.nd, List.append_assoc, List.length_append]
    rfl
theorem take_eq {s : FarS} (h : BookOk s.now) (who : Str) (first : Int) (cs : List Chg) : s.take who first cs = ⟨doneA s.now (cs.drop (s.cnt who - first).toNat), s.log ++ mkLog s.log.length who (s.cnt who) (cs.drop (s.cnt who - first).toNat), putA s.counts who (s.cnt who + ((cs.drop (s.cnt who - first).toNat).length : Int))⟩ := by
  unfold FarS.take
  simp only [pushes_eq _ _ _ _ h]
theorem cnt_put (nw : Book) (lg : List LRow) (cs : List (Str × Int)) (who : Str) (n : Int) (j : Str) : (FarS.mk nw lg (putA cs who n)).cnt j = if j = who then n else (FarS.mk nw lg cs).cnt j := by
  unfold FarS.cnt
  simp only
  rw [putA_look]
  split <;> rfl
theorem ok_dfar {s : FarS} (hb : BookIn abcdK s.now) (hl : ∀ x ∈ s.log, ChgIn abcdK x.c ∧ KeyOk x.who) (ll : s.log.length ≤ 1000) : okD 4 (dFar s) := okD_tup (by simp) fun d hd => by
  simp only [List.mem_cons, List.not_mem_nil, or_false] at hd
  rcases hd with rfl | rfl
  · exact okD_le (ok_book keyOk_abcd hb (by have := hb.len; have : abcdK.length = 4 := rfl; omega)) (by omega)
  · exact ok_log hl ll
end AB
namespace AB
open PySem PySem.Spec PyProof.Rows L2 LamX
section
variable {X : Cx} {ρ : Env} {M : Mem} {o e1 e2 e3 : Expr} {pos apos : Pos} {C G ad dx l cn : Addr} {Φ : Sl → Mem → Prop}
/-- o.take(who, first, changes), where nothing lacks -/
theorem px_take {s : FarS} {who : Str} {first : Int} {cs : List Chg} {pl : Sem Bool} (mt : MetX X.prog X.w X.K X.mg X.base 3 C "take" ["self", "who", "first", "changes"] (FFarTake C G)) (c : Cls X.K C) (hr : Room 3 X.A) (ho : PV X o ρ M (.ref ad)) (hM : FarM M C ad dx l cn s)
    (h1 : PD X e1 ρ M (.str who)) (h2 : PD X e2 ρ M (.int first)) (h3 : PD X e3 ρ M (dRow cs)) (lb : s.now.length ≤ 900) (nd : KeysND s.now) (ll : s.log.length ≤ 10000) (lc : s.counts.length ≤ 1000) (lr : cs.length ≤ 50) (hle : first ≤ s.cnt who)
    (k : ∀ M', FarM M' C ad dx l cn (s.take who first cs) → FarFr M M' ad l cn → Φ (.d (.int (s.cnt who + ((cs.drop (s.cnt who - first).toNat).length : Int)))) M')
    (hs1 : starEach [e1, e2, e3] X.env = (false, eval e1 X.env) :: starEach [e2, e3] X.env := by rfl) (hs2 : starEach [e2, e3] X.env = (false, eval e2 X.env) :: starEach [e3] X.env := by rfl) (hs3 : starEach [e3] X.env = (false, eval e3 X.env) :: starEach [] X.env := by rfl) (hpl : (backTo pos (starEach [e2, e3] X.env)).any (·.1) = false := by rfl)
    (ht : eval (.Call (.Attribute o "take" apos) [e1, e2, e3] [] pos) X.env = (do
      let ov ← eval o X.env
      standAt apos.atName
      let (f, first) ← holding [ov] (getMethod ov "take" pl)
      callWith pos f first (backTo pos (starEach [e1, e2, e3] X.env)) (backToKw pos (keywordEach [] X.env))) := by rfl) : PX X (.Call (.Attribute o "take" apos) [e1, e2, e3] [] pos) ρ M Φ :=
  px_methX mt c hr ho hM.a rfl (pxs_cons (h1.fx (pxs_cons (h2.fx (pxs_cons (h3.fx (pxs_nil ⟨ad, dx, l, cn, s, who, first, cs, rfl, hM, lb, fun _ _ => trivial, nd, ll, lc, lr, fun h => absurd h (by omega), fun _ M' h1 h2 => k M' h1 h2⟩)) hs3)) hs2)) hs1) hs1 hpl ht
/-- o.know(rows), where nothing lacks -/
theorem px_know {s : NearS} {rows : List LRow} {pl : Sem Bool} (mt : MetX X.prog X.w X.K X.mg X.base 3 C "know" ["self", "rows"] (FNearKnow C G)) (c : Cls X.K C) (hr : Room 3 X.A) (ho : PV X o ρ M (.ref ad)) (hM : NearM M C ad dx s)
    (h1 : PD X e1 ρ M (dLog rows)) (nd : KeysND s.now) (lb : s.now.length + rows.length ≤ 1000) (hg : s.gap rows = false) (k : Φ (.d .none) (mup M ad (nearO C dx (s.knows rows))))
    (hs1 : starEach [e1] X.env = (false, eval e1 X.env) :: starEach [] X.env := by rfl) (hpl : (backTo pos (starEach [] X.env)).any (·.1) = false := by rfl)
    (ht : eval (.Call (.Attribute o "know" apos) [e1] [] pos) X.env = (do
      let ov ← eval o X.env
      standAt apos.atName
      let (f, first) ← holding [ov] (getMethod ov "know" pl)
      callWith pos f first (backTo pos (starEach [e1] X.env)) (backToKw pos (keywordEach [] X.env))) := by rfl) : PX X (.Call (.Attribute o "know" apos) [e1] [] pos) ρ M Φ :=
  px_methX mt c hr ho hM.a rfl (pxs_cons (h1.fx (pxs_nil ⟨ad, dx, s, rows, rfl, hM, nd, lb, fun h => absurd (hg.symm.trans h) (by decide), fun _ => k⟩)) hs1) hs1 hpl ht
/-- o.do(change) -/
theorem px_do {s : NearS} {ch : Chg} {pl : Sem Bool} (mt : MetM X.prog X.w X.K X.mg X.base 1 C "do" ["self", "change"] (FNearDo C)) (c : Cls X.K C) (hr : Room 1 X.A) (ho : PV X o ρ M (.ref ad)) (hM : NearM M C ad dx s)
    (h1 : PD X e1 ρ M (dChg ch)) (lb : s.own.length ≤ 10000) (k : Φ (.d .none) (mup M ad (nearO C dx (s.do_ ch))))
    (hs1 : starEach [e1] X.env = (false, eval e1 X.env) :: starEach [] X.env := by rfl) (hpl : (backTo pos (starEach [] X.env)).any (·.1) = false := by rfl)
    (ht : eval (.Call (.Attribute o "do" apos) [e1] [] pos) X.env = (do
      let ov ← eval o X.env
      standAt apos.atName
      let (f, first) ← holding [ov] (getMethod ov "do" pl)
      callWith pos f first (backTo pos (starEach [e1] X.env)) (backToKw pos (keywordEach [] X.env))) := by rfl) : PX X (.Call (.Attribute o "do" apos) [e1] [] pos) ρ M Φ :=
  px_meth mt c hr ho hM.a rfl (pxs_cons (h1.fx (pxs_nil ⟨ad, dx, s, ch, rfl, hM, lb, k⟩)) hs1) hs1 hpl ht
/-- Far(book) -/
theorem px_far {b : Book} {p : Pos} (mk : MakM X.prog X.w X.K X.mg X.base 1 "Far" C ["self", "book"] (FFarInit C)) (hr : Room 2 X.A) (hg : Gl X "Far") (h1 : PD X e1 ρ M (dBook b))
    (k : ∀ ad dx l cn M', M ad = none → M dx = none → M l = none → M cn = none → Ext M M' → FarM M' C ad dx l cn ⟨b, [], []⟩ → Φ (.v (.ref ad)) M')
    (hs1 : starEach [e1] X.env = (false, eval e1 X.env) :: starEach [] X.env := by rfl) (hpl : (backTo pos (starEach [] X.env)).any (·.1) = false := by rfl) : PX X (.Call (.Name "Far" p) [e1] [] pos) ρ M Φ :=
  px_make mk hr hg (pxs_cons (h1.fx (pxs_nil fun ad dx ha hd hne => ⟨ad, dx, b, rfl, mup_same, (mup_ne hne).trans mup_same, fun M' l cn hM hl hcn hf => ⟨rfl, (let ⟨e, n1, n2⟩ := far_made ha hd hl hcn hf; k ad dx l cn M' ha hd n1 n2 e hM)⟩⟩)) hs1) (by decide) hs1 hpl
/-- Near(who, book) -/
theorem px_near {who : Str} {b : Book} {p : Pos} (mk : MakM X.prog X.w X.K X.mg X.base 1 "Near" C ["self", "who", "book"] (FNearInit C)) (hr : Room 2 X.A) (hg : Gl X "Near") (h1 : PD X e1 ρ M (.str who)) (h2 : PD X e2 ρ M (dBook b))
    (k : ∀ ad dx M', M ad = none → M dx = none → Ext M M' → NearM M' C ad dx ⟨who, b, 0, [], 0⟩ → Φ (.v (.ref ad)) M')
    (hs1 : starEach [e1, e2] X.env = (false, eval e1 X.env) :: starEach [e2] X.env := by rfl) (hs2 : starEach [e2] X.env = (false, eval e2 X.env) :: starEach [] X.env := by rfl) (hpl : (backTo pos (starEach [e2] X.env)).any (·.1) = false := by rfl) : PX X (.Call (.Name "Near" p) [e1, e2] [] pos) ρ M Φ :=
  px_make mk hr hg (pxs_cons (h1.fx (pxs_cons (h2.fx (pxs_nil fun ad dx ha hd hne => ⟨ad, dx, who, b, rfl, mup_same, rfl, k ad dx _ ha hd (near_made ha hd) ⟨mup_same, by rw [mup_ne hne, mup_ne hne, mup_same]⟩⟩)) hs2)) hs1) (by decide) hs1 hpl
end
end AB
namespace AB
open PySem PySem.Spec PyProof.Rows L2 LamX
/-! ### repr of data -/
/-- what repr shows and how long it may be -/
structure Shows (d : D) : Prop where
  sh : d.showable = true
  nd : d.hasDict = false
  cl : d.canLay0 = true
  dp : d.depth ≤ 60
  sz : d.shown.length ≤ sizeLine
section
variable {X : Cx} {ρ : Env} {M : Mem} {e : Expr} {pos p : Pos} {ds : List D}
theorem call_reprD (hg : X.A.guards = some []) (hu : X.A.units + 64 < cLine) : CallR X (.builtin "repr") (fun xs H Q => ∃ (a : Addr) (d : D), xs = [.ref a] ∧ Dp X.K H (.ref a) d ∧ Shows d ∧ Q (.str d.shown) H) := by
  intro pins s σ H xs us Q I r h
  obtain ⟨a, d, rfl, hd, sh, q⟩ := h
  obtain ⟨u, rfl, ru⟩ := vals1 r
  obtain ⟨as, r1⟩ := Dp.reads I d _ u hd ru
  cases (show u = .ref a from ru)
  have hz := sh.dp
  exact repr_of_reads' r1 sh.sh (fun e => by rw [sh.nd] at e; cases e) hg (by omega) (fun _ _ e => e) (fun h' u tk hk => ⟨.str _, H, I.kept hk, ⟨_, rfl⟩, q⟩) sh.sz
theorem boot_repr : bootBuiltins "repr" = some (.builtin "repr") := by decide +kernel
theorem pd_repr (hG : X.A.guards = some []) (hu : X.A.units + 64 < cLine) (hg : Gl X "repr") (hm : X.mg "repr" = none) (ha : PD X e ρ M (.tuple ds)) (sh : Shows (.tuple ds)) (hs : starEach [e] X.env = (false, eval e X.env) :: starEach [] X.env := by rfl) : PD X (.Call (.Name "repr" p) [e] [] pos) ρ M (.str (PyData.shown (.tuple ds))) :=
  pd_callB (call_reprD hG hu) (fun Hs H vs Q s p k => by
    cases p with
    | cons h1 h2 =>
      cases h2
      obtain ⟨a, xs, rfl, _, _⟩ := dp_tup h1
      exact ⟨a, _, rfl, (dp_mono s h1).dp sh.cl, sh, k _ Hs H (.refl s) (.str _)⟩) hg hm boot_repr (pds_cons ha pds_nil hs) (by decide) (by decide) hs
end
/-! ### how long -/
/-- small data: how deep, how heavy -/
structure Sm (n w : Nat) (d : D) : Prop where
  sh : d.showable = true
  nd : d.hasDict = false
  cl : d.canLay0 = true
  dp : d.depth ≤ n
  wt : d.weight ≤ w
  is : d.intsShort 13 = true
theorem Sm.mono {n w n' w' : Nat} {d : D} (h : Sm n w d) (hn : n ≤ n') (hw : w ≤ w') : Sm n' w' d := ⟨h.sh, h.nd, h.cl, Nat.le_trans h.dp hn, Nat.le_trans h.wt hw, h.is⟩
theorem Sm.shows {n w : Nat} {d : D} (h : Sm n w d) (hn : n ≤ 60) (hw : w ≤ 1048576) : Shows d :=
  ⟨h.sh, h.nd, h.cl, Nat.le_trans h.dp hn, PyData.shown_fits (B := 13) (by decide) (by decide) (PyData.leavesShort_of_canLay0 13 d h.cl h.is) (Nat.le_trans h.wt hw)⟩
theorem sm_int {i : Int} (h : i.natAbs < 10 ^ 12) : Sm 0 45 (.int i) := by
  have hl : i.natAbs ≠ 0 → i.natAbs.log2 < 40 := fun h0 => (Nat.log2_lt h0).mpr (Nat.lt_trans h (by decide))
  refine ⟨?_, rfl, rfl, Nat.zero_le _, ?_, ?_⟩
  · show decide (i.natAbs.log2 < 1920) = true
    refine decide_eq_true ?_
    by_cases h0 : i.natAbs = 0
    · rw [h0]; decide
    · have := hl h0; omega
  · show (if i == 0 then 0 else i.natAbs.log2 + 1) ≤ 45
    split
    · omega
    · rename_i h0
      have := hl (fun z => h0 (by rw [Int.natAbs_eq_zero.mp z]; rfl))
      omega
  · show decide _ = true
    exact decide_eq_true (PyData.shown_int_le h)
theorem sm_str {k : Str} (h : KeyOk k) : Sm 0 100 (.str k) := ⟨rfl, rfl, by show PyData.strOk k = true; exact h.1, Nat.zero_le _, h.2, rfl⟩
theorem sm_none : Sm 0 0 .none := ⟨rfl, rfl, rfl, Nat.le_refl _, Nat.le_refl _, rfl⟩
theorem sm_bool {b : Bool} : Sm 0 0 (.bool b) := ⟨rfl, rfl, rfl, Nat.le_refl _, Nat.le_refl _, rfl⟩
theorem sm_all {n w : Nat} : ∀ {ds : List D}, (∀ d ∈ ds, Sm n w d) → PyData.showableAll ds = true ∧ PyData.hasDictAll ds = false ∧ PyData.canLayAll0 ds = true ∧ PyData.depthAll ds ≤ n ∧ PyData.weightAll ds ≤ ds.length * (w + 1) ∧ PyData.intsShortAll 13 ds = true
  | [], _ => ⟨rfl, rfl, rfl, Nat.zero_le _, Nat.zero_le _, rfl⟩
  | d :: ds, h => by
    have h1 := h d List.mem_cons_self
    obtain ⟨a1, a2, a3, a4, a5, a6⟩ := sm_all (ds := ds) fun x hx => h x (List.mem_cons_of_mem _ hx)
    have h2 := h1.dp
    have h3 := h1.wt
    refine ⟨?_, ?_, ?_, ?_, ?_, ?_⟩
    · simp only [PyData.showableAll, h1.sh, a1, Bool.and_self]
    · simp only [PyData.hasDictAll, h1.nd, a2, Bool.or_self]
    · simp only [PyData.canLayAll0, h1.cl, a3, Bool.and_self]
    · simp only [PyData.depthAll]; omega
    · simp only [PyData.weightAll, List.length_cons, Nat.add_mul]; omega
    · simp only [PyData.intsShortAll, h1.is, a6, Bool.and_self]
theorem sm_tup {n w : Nat} {ds : List D} (h : ∀ d ∈ ds, Sm n w d) : Sm (n + 1) (ds.length * (w + 1)) (.tuple ds) := by
  obtain ⟨a1, a2, a3, a4, a5, a6⟩ := sm_all h
  refine ⟨by simpa only [PyData.showable] using a1, by simpa only [PyData.hasDict] using a2, by simpa only [PyData.canLay0] using a3, by simp only [PyData.depth]; omega, by simpa only [PyData.weight] using a5, by simpa only [PyData.intsShort] using a6⟩
theorem sm_chg {S : List Str} {c : Chg} (hS : SOk S) (h : ChgIn S c) : Sm 1 303 (dChg c) := by
  have kk : ∀ k ∈ S, Sm 0 100 (.str k) := fun k hk => sm_str (hS k hk)
  have wd : ∀ w : Str, (PyData.strOk w && decide (w.length ≤ 100)) = true → Sm 0 100 (.str w) := fun w h => by
    simp only [Bool.and_eq_true, decide_eq_true_eq] at h
    exact sm_str h
  have wi : ∀ v : Int, InW v → Sm 0 100 (.int v) := fun v h => (sm_int (by have h1 := h.1; have h2 := h.2; omega)).mono (Nat.le_refl _) (by decide)
  have tri : ∀ a b c : D, Sm 0 100 a → Sm 0 100 b → Sm 0 100 c → Sm 1 303 (.tuple [a, b, c]) := fun a b c ha hb hc => (sm_tup (n := 0) (w := 100) (ds := [a, b, c]) fun d hd => by
    simp only [List.mem_cons, List.not_mem_nil, or_false] at hd
    rcases hd with rfl | rfl | rfl
    · exact ha
    · exact hb
    · exact hc).mono (Nat.le_refl _) (by simp)
  cases c with
  | put k w => exact tri _ _ _ (wd _ (by decide +kernel)) (kk _ h.1) (wi _ h.2)
  | add k w => exact tri _ _ _ (wd _ (by decide +kernel)) (kk _ h.1) (wi _ h.2)
  | keep k w => exact tri _ _ _ (wd _ (by decide +kernel)) (kk _ h.1) (wi _ h.2)
  | drop k => exact (sm_tup (n := 0) (w := 100) (ds := [.str "drop", .str k]) fun d hd => by
      simp only [List.mem_cons, List.not_mem_nil, or_false] at hd
      rcases hd with rfl | rfl
      · exact wd _ (by decide +kernel)
      · exact kk _ h).mono (Nat.le_refl _) (by simp)
  | move a b => exact tri _ _ _ (wd _ (by decide +kernel)) (kk _ h.1) (kk _ h.2)
theorem sm_book {b : Book} (h : BookIn abcdK b) : Sm 2 900 (dBook b) := by
  have hl := h.len
  have l4 : abcdK.length = 4 := rfl
  refine (sm_tup (n := 1) (w := 202) (ds := b.map dPair) fun d hd => ?_).mono (Nat.le_refl _) (by rw [List.length_map]; omega)
  obtain ⟨p, hp, rfl⟩ := List.mem_map.mp hd
  have hm := h.mem hp
  refine (sm_tup (n := 0) (w := 100) (ds := [.str p.1, .int p.2]) fun d hd => ?_).mono (Nat.le_refl _) (by simp)
  simp only [List.mem_cons, List.not_mem_nil, or_false] at hd
  rcases hd with rfl | rfl
  · exact sm_str (keyOk_abcd _ hm.1)
  · exact (sm_int (by have h1 := hm.2.1; have h2 := hm.2.2; omega)).mono (Nat.le_refl _) (by decide)
theorem sm_rowC {r : List Chg} (h : ∀ c ∈ r, ChgIn abcdK c) (hl : r.length ≤ 100) : Sm 2 30400 (dRow r) := by
  refine (sm_tup (n := 1) (w := 303) (ds := r.map dChg) fun d hd => ?_).mono (Nat.le_refl _) (by rw [List.length_map]; omega)
  obtain ⟨c, hc, rfl⟩ := List.mem_map.mp hd
  exact sm_chg keyOk_abcd (h c hc)
/-- rows whose numbers are small -/
def SmR (x : LRow) : Prop := ChgIn abcdK x.c ∧ KeyOk x.who ∧ x.n.natAbs < 10 ^ 12 ∧ x.at_.natAbs < 10 ^ 12
theorem sm_lrow {x : LRow} (h : SmR x) : Sm 2 1216 (dLRow x) := by
  refine (sm_tup (n := 1) (w := 303) (ds := [.int x.n, .str x.who, .int x.at_, dChg x.c]) fun d hd => ?_).mono (Nat.le_refl _) (by simp)
  simp only [List.mem_cons, List.not_mem_nil, or_false] at hd
  rcases hd with rfl | rfl | rfl | rfl
  · exact (sm_int h.2.2.1).mono (by decide) (by decide)
  · exact (sm_str h.2.1).mono (by decide) (by decide)
  · exact (sm_int h.2.2.2).mono (by decide) (by decide)
  · exact sm_chg keyOk_abcd h.1
theorem sm_rows {ds : List D} (h : ∀ d ∈ ds, ∃ x, d = dLRow x ∧ SmR x) (hl : ds.length ≤ 200) : Sm 3 243400 (.tuple ds) := by
  refine (sm_tup (n := 2) (w := 1216) (ds := ds) fun d hd => ?_).mono (Nat.le_refl _) (by omega)
  obtain ⟨x, rfl, hx⟩ := h d hd
  exact sm_lrow hx
end AB
namespace AB
open PySem PySem.Spec PyProof.Rows L2 LamX
/-! ### the law at its caller (no repr is under way there). These two began as the kit's fn_of and law_callTs, turned to the caller alone. -/
structure FnC (P : Program) (w : World) (K : Fg) (mg : Str → Option Value) (base : Heap) (k : Nat) (f : Addr) (fd : FuncData) (ps : List Str) (sp : Sp) : Prop where
  run : ∀ (s : Shared) (H : Hp) (args : Args) (us : List Value) (vs : List V) (Q : VK), Room k callerA → Env0 P w K mg base callerA [] s H → BindsTo s fd args (ps.zip us) → Vals vs us → sp vs H Q (fun _ _ _ => False) →
    codeAny (model P w) callerA (.call (.ref f) args) (CR CX0 [] P w H s Q fun _ _ _ => False) s
theorem fn_ofC {P : Program} {w : World} {K : Fg} {mg : Str → Option Value} {base : Heap} {k : Nat} {f : Addr} {name qual : Str} {params : Arguments} {body : List Stmt} {scope : Scope} {dV kV doc pm cdv ct oc : Value} {an od : Option Addr}
    {osl : Array (Option Value)} {N ps : List Str} {sp : Sp} (lk : K.lookup f = some ⟨oc, od, .func (PySem.W.fnOf name qual params body scope dV kV doc pm an cdv ct), osl⟩) (hcd : PySem.W.codeIn K cdv qual = true) (S : FnScope N ps scope)
    (len : ∀ vs H Q E, sp vs H Q E → vs.length = ps.length)
    (hbody : ∀ (s : Shared) (H : Hp) (vs : List V) (Q : VK), Room k (callerA.deeper (envOfC qual scope s.heap.objs.size f cdv)) → sp vs H Q (fun _ _ _ => False) →
      ∃ t, PSs (cxOf CX0 P w K mg base N qual scope f cdv callerA [] s H fun _ _ _ => False) body t ∧ t { nx := fun _ H' => Q .non H', rt := Q } (L2.start N vs) H) :
    FnC P w K mg base (k + 1) f (PySem.W.fnOf name qual params body scope dV kV doc pm an cdv ct) ps sp := by
  refine ⟨fun s H args us vs Q hr e0 hb r hsp => ?_⟩
  have KX : K.In s.heap := e0.mod.kin.keeps fun b o e => (e0.bs b o e).1
  have lim : s.heap.NoLimit := e0.mod.nolimit.keeps fun b o e => (e0.bs b o e).1
  refine codeAny_call_function hr.depth (KX _ _ lk) rfl S.co S.gen rfl (PySem.W.codeRec_of KX hcd) (hb _ _ _ _ (wpAny_newFunctionEnv_cells S.kind (fun ⟨n, v⟩ hy => (S.par n (List.of_mem_zip hy).1).imp id fun q => ⟨q, PySem.W.cellsFrom_some _ _ _ (.inl q)⟩) fun env he s1 x => ?_))
  subst he
  refine ⟨lim.keeps x.toInCall.keep, codeAny_func ?_⟩
  obtain ⟨t, ht, hq⟩ := hbody s H vs Q (hr.deeper _) hsp
  refine wpAny_mono (ht.run [] s1 (L2.start N vs) H _ (inv_start S hr.hd e0 (len _ _ _ _ hsp) r x) hq) (fun fl s' hs => ?_) fun e s' hs => hs
  cases fl with
  | ret u => exact let ⟨v, _, H', J, rv, q⟩ := hs; ⟨v, H', J.os, J.bare, J.base, J.hok, rv, q⟩
  | next => exact let ⟨_, H', J, q⟩ := hs; ⟨.non, H', J.os, J.bare, J.base, J.hok, rfl, q⟩
  | brk => exact (let ⟨_, _, _, q⟩ := hs; False.elim q)
  | cont => exact (let ⟨_, _, _, q⟩ := hs; False.elim q)
theorem law_callC {P : Program} {w : World} {K : Fg} {mg mb : Str → Option Value} {k : Nat} {fa a c T : Addr} {fd : FuncData} {x : Str} {sp : Sp} {s₁ : Shared} {vs : List Value} {ns : List Int}
    (KX : K.In s₁.heap) (hns : s₁.heap.Ns mainGlobals mg) (hb : s₁.heap.Ns builtinsNs mb) (hbb : ∀ x : Str, x ≠ "__name__" → mb x = bootBuiltins x) (hlim : s₁.heap.NoLimit) (hg : s₁.gens = #[])
    (hT : s₁.heap.get? T = some { cls := .none, data := .fields #[] }) (nT : K.lookup T = none) (C : PySem.W.CodeHd s₁.heap c T)
    (hbm : ∃ (bm : Addr) (ob : Obj), mg "__builtins__" = some (.ref bm) ∧ bm ≠ builtinsNs ∧ s₁.heap.get? bm = some ob ∧ ob.cls = .type "module" ∧ ob.dict = some builtinsNs ∧ ob.data = .plain)
    (ha : s₁.heap.get? a = some { cls := .type "list", data := .seq vs.toArray }) (hi : IntsAre vs ns) (hl : ns.length ≤ sizeLine) (hr : Room k callerA)
    (F : ∀ base : Heap, K.In base → base.Ns mainGlobals mg → TabB base mg c T → FnC P w K mg base k fa fd [x] sp) (hbind : ∀ (s : Shared) (u : Value), BindsTo s fd ⟨[u], []⟩ [(x, u)])
    (hsp : ∀ H : Hp, H T = some (.tbl #[]) → SqL K H a (ns.map V.int) → sp [.ref a] H (fun v _ => v = .bl true) fun _ _ _ => False) :
    codeAny (model P w) callerA (.call (.ref fa) ⟨[.ref a], []⟩) (fun r s' => r = .ok (.ret (.bool true)) ∧ OldK s₁.heap s'.heap ∧ s'.os = s₁.os ∧ AllBare s'.gens) s₁ := by
  have rv := vals_ints hi
  have lenV := hi.length
  have aT : a ≠ T := fun z => by
    rw [z, hT] at ha
    cases ha
  -- one run, from any abstract heap that tracks no more than the script and the table
  have core : ∀ H : Hp, H T = some (.tbl #[]) → (∀ b, b ≠ T → H b ≠ none → b = a ∧ K.lookup a = none ∧ ∃ o xs, H b = some (.frz o (.lst xs))) → SqL K H a (ns.map V.int) → HOk P w H s₁.heap →
      codeAny (model P w) callerA (.call (.ref fa) ⟨[.ref a], []⟩) (fun r s' => r = .ok (.ret (.bool true)) ∧ OldK s₁.heap s'.heap ∧ s'.os = s₁.os ∧ AllBare s'.gens) s₁ := by
    intro H hH hO hS hok
    have free : ∀ {b : Addr} {o : Obj}, s₁.heap.get? b = some o → (∀ vs n, o.data ≠ .seq vs n) → o.data ≠ .fields #[] → (hidT s₁.heap H).get? b = some o := fun {b o} e h1 h2 => hidT_get e (by
      cases q : H b with
      | none => rfl
      | some u =>
        by_cases hbT : b = T
        · rw [hbT, hT] at e; cases e; exact (h2 rfl).elim
        · rw [(hO b hbT (by rw [q]; simp)).1, ha] at e; cases e; exact (h1 _ _ rfl).elim)
    have nsK : ∀ {b : Addr} {m : Str → Option Value}, s₁.heap.Ns b m → (hidT s₁.heap H).Ns b m := fun {b m} ⟨o, es, ep, e, d, r⟩ => ⟨o, es, ep, free e (fun _ _ z => by rw [d] at z; cases z) (fun z => by rw [d] at z; cases z), d, r⟩
    have hKb : K.In (hidT s₁.heap H) := fun b o e => hidT_get (KX b o e) (by
      cases q : H b with
      | none => rfl
      | some u =>
        by_cases hbT : b = T
        · rw [hbT, nT] at e; cases e
        · have z := hO b hbT (by rw [q]; simp)
          rw [z.1, z.2.1] at e; cases e)
    have TB : TabB (hidT s₁.heap H) mg c T := by
      refine ⟨?_, ?_, fun z => ?_⟩
      · obtain ⟨o, us, file, tf, flags, tg, inF, text, tt, e1, r1, r2, r3, r4, r5, r6, r7, r8, hne⟩ := C
        exact ⟨o, us, file, tf, flags, tg, inF, text, tt, free e1 (fun _ _ z => by rw [r2] at z; cases z) (fun z => by rw [r2] at z; cases z; simp at r3), r1, r2, r3, r4, r5, r6, r7, r8, hne⟩
      · obtain ⟨bm, ob, b1, b2, b3, b4, b5, b6⟩ := hbm
        refine ⟨bm, ob, b1, b2, fun q => ?_, fun q => ?_, free b3 (fun _ _ z => by rw [b6] at z; cases z) (fun z => by rw [b6] at z; cases z), b4, b5, b6⟩
        · obtain ⟨o, es, ep, e, hd, _⟩ := hns
          rw [q, e] at b3
          cases b3
          rw [hd] at b6
          cases b6
        · rw [q, hT] at b3
          cases b3
          cases b6
      · obtain ⟨o, es, ep, e, hd, _⟩ := hns
        rw [z, hT] at e
        cases e
        cases hd
    have e0 : Env0 P w K mg (hidT s₁.heap H) callerA [] s₁ H := ⟨rfl, ⟨hKb, nsK hns, ⟨mb, nsK hb, hbb⟩, let ⟨mc, h1, h2⟩ := hlim; ⟨mc, nsK h1, h2⟩⟩, fun b o e => of_hidT e, Nat.le_of_eq (hidT_size _ _), trivial, fun b hb => absurd (show b ∈ ([] : List Addr) from hb) (by simp), hok, .of_eq hg⟩
    refine codeAny_mono ((F _ hKb (nsK hns) TB).run s₁ H ⟨[.ref a], []⟩ [.ref a] [.ref a] _ hr e0 (hbind s₁ (.ref a)) (.cons rfl .nil) (hsp H hH hS)) fun r s' h => ?_
    cases r with
    | error e => exact (show False from h).elim
    | ok fl =>
      cases fl with
      | next => exact False.elim h
      | brk => exact False.elim h
      | cont => exact False.elim h
      | ret u =>
        obtain ⟨v, H', os, bare, un, hok', r', q⟩ := h
        cases (show v = .bl true from q)
        obtain rfl : u = Value.bool true := r'
        have key : ∀ b o, b ≠ T → s₁.heap.get? b = some o → s'.heap.get? b = some o := fun b o nb e => by
          cases q : H b with
          | none => exact un.keep b o e q (by intro z; exact absurd (show b ∈ ([] : List Addr) from z) (by simp)) (by simp)
          | some u =>
            obtain ⟨_, _, ob, xs, z⟩ := hO b nb (by rw [q]; simp)
            have z2 := un.frzs b ob _ z
            obtain ⟨e1, _⟩ := hok b _ z
            obtain ⟨e2, _⟩ := hok' b _ z2
            rw [e] at e1; cases e1
            exact e2
        obtain ⟨more, z⟩ := un.tbls T #[] hH
        have hm : s'.heap.get? T = some { cls := .none, data := .fields (#[] ++ more) } := hok' T _ z
        refine ⟨rfl, ⟨fun b o e => ?_, fun b o e => ?_⟩, os, bare⟩
        · by_cases hbT : b = T
          · subst hbT
            rw [hT] at e
            cases e
            exact .inr (.inl ⟨(C.tab hT).isCodeTable, rfl, #[], more, rfl, hm⟩)
          · exact .inl (key b o hbT e)
        · by_cases hbT : b = T
          · subst hbT
            exact ⟨_, hm⟩
          · exact ⟨o, key b o hbT e⟩
  cases hk : K.lookup a with
  | some o =>
    have e := KX a o hk
    rw [ha] at e
    cases e
    refine core (fun b => if b = T then some (.tbl #[]) else none) (if_pos rfl) (fun b nb z => absurd (if_neg nb) z) (.inr ⟨_, vs.toArray, _, hk, rfl, rfl, rfl, by rw [List.size_toArray, lenV]; exact hl, by simpa using rv⟩) (fun b u z => ?_)
    by_cases hbT : b = T
    · have z' := (if_pos hbT).symm.trans z
      cases z'
      rw [hbT]; exact hT
    · have z' := (if_neg hbT).symm.trans z
      cases z'
  | none =>
    refine core (fun b => if b = a then some (.frz { cls := .type "list", data := .seq vs.toArray } (.lst (ns.map V.int))) else if b = T then some (.tbl #[]) else none) ((if_neg (Ne.symm aT)).trans (if_pos rfl)) (fun b nb z => ?_) (.inl (.inr ⟨{ cls := .type "list", data := .seq vs.toArray }, if_pos rfl⟩)) (fun b u z => ?_)
    · by_cases hba : b = a
      · exact ⟨hba, hk, _, _, if_pos hba⟩
      · exact absurd ((if_neg hba).trans (if_neg nb)) z
    · by_cases hba : b = a
      · have z' := (if_pos hba).symm.trans z
        cases z'
        rw [hba]
        exact ⟨ha, by rw [List.length_map]; exact hl, vs, _, rv, ha⟩
      · have z1 := (if_neg hba).symm.trans z
        by_cases hbT : b = T
        · have z' := (if_pos hbT).symm.trans z1
          cases z'
          rw [hbT]; exact hT
        · have z' := (if_neg hbT).symm.trans z1
          cases z'
/-- what is known of the law's promise at the head's heap, its table that of the def y -/
theorem walk_ofC {l : PySem.W.OpenLaw} {k : Nat} {q : Program} {loose : List Str} {XP : (Str → Option Value) → Heap → Prop} {YP : World → Heap → Prop} {d : DefRec} {K : Params → PySem.W.Frag} {y : Str}
    (hn : l.most = some 63) (hdf : d.params.defaults = []) (hr : Room k callerA) (hY : ∀ (w : World) (h : Heap), YP w h → (K w.params).In h) {dr : DefRec} (hrec : (recsOf q).find? (fun e => e.name == y) = some dr)
    (F : ∀ (w : World) (mg : Str → Option Value) (fa : Addr) (h : Heap), (K w.params).In h → h.Ns mainGlobals mg → mg d.name = some (.ref fa) → ∃ (fd : FuncData) (c T : Addr), PySem.W.tabIn (K w.params) y = some (c, T) ∧ (K w.params).lookup T = none ∧ (∀ (s : Shared) (v : Value), BindsTo s fd ⟨[v], []⟩ [("script", v)]) ∧
      ∀ base : Heap, (K w.params).In base → base.Ns mainGlobals mg → TabB base mg c T → FnC l.prog w (K w.params) mg base k fa fd ["script"] (spT (K w.params) (mup m0 T (.tab (lamQ y))) FLaw)) :
    PySem.W.WalkO q loose XP YP l.row.toRowW d [] (fun f vs => PySem.call f vs) := by
  refine Att.attach_callB hn hdf fun w s₀ s₁ mg mb fa o pm cd doc a vs ns G Y ho hd hcd hmg hobj hints hlen hbits hg => ?_
  have KX := hY w _ Y
  obtain ⟨fd, c, T, ht, nP, hb, hF⟩ := F w mg fa _ KX G.T.g hmg
  obtain ⟨h1, h2⟩ := PySem.W.tab_of G.T KX hrec ht
  exact law_callC KX G.T.g G.T.b G.T.builtins G.T.nolimit hg h2 nP h1 G.T.bmain hobj hints (Nat.le_trans hlen (by decide)) hr hF hb fun H hH hS => law_spT _ T _ H a ns hlen hH hS
/-- the law's body, at the caller -/
theorem fn_okC {P : Program} {w : World} {K : Fg} {mg : Str → Option Value} {base : Heap} {x qual : Str} {st : Stmt} {f : Addr} {cdv : Value} {N ps : List Str} {k : Nat} {M0 : Mem} {F : List D → D → Prop} {oc : Value} {od an : Option Addr} {osl : Array (Option Value)} {kV doc pm ct : Value}
    (lk : K.lookup f = some ⟨oc, od, .func (PySem.W.fnOf x qual (defArgs st) (defBody st) (defScope st) .none kV doc pm an cdv ct), osl⟩) (hcd : PySem.W.codeIn K cdv qual = true) (S : FnScope N ps (defScope st))
    (len : ∀ ds d, F ds d → ds.length = ps.length)
    (body : ∀ (s : Shared) (H : Hp) (ds : List D) (d : D), Room k (callerA.deeper (PyProof.Rows.envOfC qual (defScope st) s.heap.objs.size f cdv)) → F ds d →
      DSs (bCx P w K mg base N qual st f cdv callerA [] s H fun _ _ _ => False) (defBody st) (entry N ds) M0 { nx := fun _ _ => d = .none, rt := fun s _ => s = .d d }) : FnC P w K mg base (k + 1) f (PySem.W.fnOf x qual (defArgs st) (defBody st) (defScope st) .none kV doc pm an cdv ct) ps (spT K M0 F) := by
  refine fn_ofC lk hcd S (fun vs H Q E h => ?_) fun s H vs Q hr h => ?_
  · obtain ⟨Hs, ds, d, i, p, hF, _⟩ := h
    rw [p.len]; exact len ds d hF
  · obtain ⟨Hs, ds, d, i, p, hF, q⟩ := h
    refine ⟨_, (pss_w (X := bCx P w K mg base N qual st f cdv callerA [] s H fun _ _ _ => False)).nox, (body s H ds d hr hF).run Hs H _ _ i (dpAll_env p) ⟨fun Hs' H' M' σ' ρ' r f q' k => ?_, fun Hs' H' M' v z r f q' k => ?_, fun _ _ _ _ _ _ _ _ k => k.elim, fun _ _ _ _ _ _ _ _ k => k.elim⟩⟩
    · exact q _ Hs' H' (by rw [show d = .none from k]; exact .non)
    · cases (show z = .d d from k)
      exact q _ Hs' H' q'.dp
end AB
namespace AB
open PySem PySem.Spec PyProof.Rows L2 LamX
/-! ### told(lambda: ..), where the refusal is not looked at -/
section
variable {X : Cx} {ρ : Env} {M : Mem} {Φ Φ' : Sl → Mem → Prop} {Ψ : Value → Mem → Prop}
theorem px_told2 {A c P : Addr} {x a : Str} {k : Nat} {params : Arguments} {body : Expr} {scope : Scope} {p lpos pos : Pos} (T : Taker X x a (TTwice X.K A)) (hg : Gl X x) (TB : TabB X.base X.mg c P) (hcode : X.env.code = .ref c) (hr : Room (k + 2) X.A) (hM : M P = some (.tab (X.env.qual ++ "<lambda>")))
    (L : LamS X.env.scope scope) (hbody : ∀ (A : Around) (outer : List PySem.Env) (s : Shared) (H : Hp) (E : XK) (f c' : Addr), Room k (A.deeper (lamEnv X scope s.heap.objs.size f c')) → PXr (lamCx X A outer s H E scope f c') body ρ M Φ Ψ)
    (h1 : ∀ s M', Φ s M' → ∃ d, s = .d d ∧ Φ' (.d (.tuple [.str "told", d])) M') (h2 : ∀ cls M', Ψ cls M' → PySem.W.exmOne X.K cls (.ref A) = some true ∧ Φ' (.d (.tuple [.str "refused", .none])) M')
    (hdef : defaultsOf params X.env = ([], []) := by rfl) (hbind : ∀ (q : Str) (cl : List (Str × Addr)) (pm cv ctv : Value), bindArgs (PySem.W.kla_fn "<lambda>" q params body scope cl pm cv ctv) ⟨[], []⟩ = pure [] := by intros; rfl)
    (hdb : (x == ("__debug__" : Str)) = false := by decide) (hd : (a == ("__debug__" : Str)) = false := by decide) (hcd : (a == ("__classdict__" : Str)) = false := by decide) :
    PX X (.Call (.Name x p) [.Lambda params body scope lpos] [] pos) ρ M Φ' := by
  obtain ⟨g, pg, bg, sg, dV, kV, doc, pm, cdv, ct, oc, an, od, osl, Ng, hm, hk, lk, hcg, hb, Sg, hNg, hva, hG⟩ := T.ex
  refine ⟨fun Hs H σ Q r q kk => PE.w (pe_lamH (t := fun E σ H Q => ∀ (A : Around) (outer : List PySem.Env) (s : Shared) (H0 : Hp) (f c' : Addr), Room k (A.deeper (lamEnv X scope s.heap.objs.size f c')) → tWe (lamCx X A outer s H0 E scope f c') body σ H Q) hg hm hk lk hcg hb Sg hNg hva hG TB hcode hr L hdef hbind (fun A outer s H E f c' hr2 => ⟨fun pins s' σ H' Q I h => h A outer s H f c' hr2 pins s' I⟩) hdb hd hcd) ?_⟩
  obtain ⟨nP, o, e1, e2⟩ := r.m P _ hM
  obtain ⟨ps, rfl⟩ : ∃ ps, o = .tbl ps := by cases o <;> first | exact ⟨_, rfl⟩ | exact e2.elim
  refine ⟨ps, e1, e2.1, fun pos cv hcv => (let ⟨c', y1, y2⟩ := e2.2 pos cv hcv; ⟨c', y1, r.i _ _ y2⟩), fun c' H1 hL hco => ⟨fun E H' Q1 Q2 hq h A outer s H0 f c'' hr2 pins s' I => thn (h A outer s H0 f c'' hr2 pins s' I) fun u s2 ⟨v, H2, I2, rv, qv⟩ => ⟨v, H2, I2, rv, hq v H2 qv⟩, fun A' outer s H0 f c'' hr2 => ?_⟩⟩
  obtain ⟨Hs1, r1, f1⟩ := lamH_rel r hM e1 hL
  refine (hbody A' outer s H0 _ f c'' hr2).run Hs1 H1 σ _ _ (passes_call (takes_of rfl rfl rfl rfl) fun _ _ _ _ h => h) r1 (q.mono f1.s) (fun v s' Hs2 H2 M2 r2 f2 sv φ => ?_) fun cls Hs2 H2 M2 r2 f2 ψ => ?_
  · obtain ⟨d, rfl, φ'⟩ := h1 s' M2 φ
    exact tupR_d kk r2 (f1.trans f2) sv.dp φ'
  · obtain ⟨cg, φ'⟩ := h2 cls M2 ψ
    exact ⟨cg, tupR_d kk r2 (f1.trans f2) .non φ'⟩
end
/-- a def that makes lambdas, by its body -/
theorem def_okMT {P : Program} {w : World} {K : Fg} {mg : Str → Option Value} {base : Heap} {x : Str} {st : Stmt} {f c : Addr} {N ps : List Str} {k : Nat} {F : MSp} {oc : Value} {od an : Option Addr} {osl : Array (Option Value)} {kV doc pm ct : Value}
    (lk : K.lookup f = some ⟨oc, od, .func (PySem.W.fnOf x x (defArgs st) (defBody st) (defScope st) .none kV doc pm an (.ref c) ct), osl⟩) (hcd : PySem.W.codeIn K (.ref c) x = true) (hm : mg x = some (.ref f)) (hk : PySem.W.keepIn K (.ref f) = true) (hb : Binds K (PySem.W.fnOf x x (defArgs st) (defBody st) (defScope st) .none kV doc pm an (.ref c) ct) ps []) (S : FnScope N ps (defScope st))
    (len : ∀ ss M Φ, F ss M Φ → ss.length = ps.length)
    (body : ∀ (A : Around) (outer : List PySem.Env) (s : Shared) (H : Hp) (E : XK) (ss : List Sl) (M : Mem) (Φ : Sl → Mem → Prop), Room k (A.deeper (PyProof.Rows.envOfC x (defScope st) s.heap.objs.size f (.ref c))) → F ss M Φ →
      DSs (bCx P w K mg base N x st f (.ref c) A outer s H E) (defBody st) (entryS N ss) M { nx := fun _ M' => Φ (.d .none) M', rt := Φ }) : DefM P w K mg base (k + 1) x ps F := by
  refine ⟨f, _, fn_of lk hcd S (fun vs H Q E h => ?_) fun A outer s H vs Q E hr h => ?_, hm, hk, hb⟩
  · obtain ⟨Hs, M, ss, Φ, i, p, hF, _⟩ := h
    rw [Paired.length p]; exact len ss M Φ hF
  · obtain ⟨Hs, M, ss, Φ, i, p, hF, q⟩ := h
    refine ⟨_, (pss_w (X := bCx P w K mg base N x st f (.ref c) A outer s H E)).nox, (body A outer s H E ss M Φ hr hF).run Hs H _ _ i (slots_env p) ⟨fun Hs' H' M' σ' ρ' r f q' k => ?_, fun Hs' H' M' v z r f q' k => ?_, fun _ _ _ _ _ _ _ _ k => k.elim, fun _ _ _ _ _ _ _ _ k => k.elim⟩⟩
    · exact q _ _ Hs' H' M' r f (slv_d .non) k
    · exact q _ _ Hs' H' M' r f q' k
end AB
namespace AB
open PySem PySem.Spec PyProof.Rows L2 LamX
theorem paired_get {α β : Type} {R : α → β → Prop} : ∀ {vs : List α} {ss : List β}, Paired R vs ss → ∀ (n : Nat) (s : β), ss[n]? = some s → ∃ v, vs[n]? = some v ∧ R v s
  | _, _, .nil, n, s, h => by simp at h
  | _, _, .cons a b, 0, s, h => by cases (Option.some.inj h); exact ⟨_, rfl, a⟩
  | _, _, .cons a b, n + 1, s, h => paired_get b n s h
theorem paired_atI {α β : Type} {R : α → β → Prop} {vs : List α} {ss : List β} (p : Paired R vs ss) {i : Int} {s : β} (h : atI ss i = some s) : ∃ v, atI vs i = some v ∧ R v s := by
  unfold atI at h ⊢
  rw [Paired.length p]
  cases q : ixN ss.length i with
  | none => rw [q] at h; cases h
  | some n => rw [q] at h; exact paired_get p n s h
section
variable {X : Cx} {ρ : Env} {M : Mem} {a b c e o : Expr} {es rest : List Expr} {pos p p2 apos : Pos} {d : D} {ds : List D} {C dx ad l : Addr} {gs : List (Str × Sl)} {Φ : Sl → Mem → Prop} {ss : List Sl} {v : V} {i : Int}
/-- a list of one's own, of things of any kind -/
theorem px_lstX (h : PXs X es ρ M fun ss M1 => ss.length ≤ sizeLine ∧ ∀ l, M1 l = none → Φ (.v (.ref l)) (mup M1 l (.lst ss))) : PX X (.List es pos) ρ M Φ :=
  ⟨fun Hs H σ Q r q k => PE.w (pe_lst pa_w) (h.run Hs H σ _ r q fun vs ss Hs1 H1 M1 r1 f1 p1 ⟨hz, h⟩ => ⟨by rw [Paired.length p1]; exact hz, fun l hl => by
    have g : Grow Hs1 H1 Hs1 (upd H1 l (.lst vs)) := .newH r1.i hl
    obtain ⟨r2, f2⟩ := r1.new (mo := .lst ss) g hl (r1.i.free hl) upd_same p1
    exact k _ _ Hs1 _ _ r2 (f1.trans f2) slv_v (h l (none_of r1 hl))⟩)⟩
/-- l[i], a thing of one's own -/
theorem pv_ixO (ho : PV X o ρ M (.ref l)) (hM : M l = some (.lst ss)) (hb : PD X b ρ M (.int i)) (h : atI ss i = some (.v v)) (hs : PlainIx b := by exact fun _ _ => rfl) : PV X (.Subscript o b pos) ρ M v :=
  ⟨fun Hs H σ Q r q k => PE.w (pe_ix ix_list pe_w pe_w hs) (ho.run Hs H σ _ r q fun Hs1 H1 g1 => hb.run Hs1 H1 σ _ (r.grow g1) (q.mono g1.s) fun u Hs2 H2 g2 p2 => by
    obtain ⟨_, o', h2, h3⟩ := (r.grow (g1.trans g2)).m l _ hM
    obtain ⟨vs, rfl, pr⟩ := rep_lst h3
    obtain ⟨x, e1, e2⟩ := paired_atI pr h
    cases (show some x = some v from e2)
    exact ⟨l, vs, i, _, rfl, dp_int p2, .inl (.of h2), e1, k Hs2 H2 (g1.trans g2)⟩)⟩
theorem pd_ixO (ho : PV X o ρ M (.ref l)) (hM : M l = some (.lst ss)) (hb : PD X b ρ M (.int i)) (h : atI ss i = some (.d d)) (hs : PlainIx b := by exact fun _ _ => rfl) : PD X (.Subscript o b pos) ρ M d :=
  pd_of (pe_ix ix_list pe_w pe_w hs) fun Hs H σ Q r q k => ho.run Hs H σ _ r q fun Hs1 H1 g1 => hb.run Hs1 H1 σ _ (r.grow g1) (q.mono g1.s) fun u Hs2 H2 g2 p2 => by
    obtain ⟨_, o', h2, h3⟩ := (r.grow (g1.trans g2)).m l _ hM
    obtain ⟨vs, rfl, pr⟩ := rep_lst h3
    obtain ⟨x, e1, e2⟩ := paired_atI pr h
    exact ⟨l, vs, i, x, rfl, dp_int p2, .inl (.of h2), e1, k x Hs2 H2 (g1.trans g2) e2.dp⟩
/-- l1 != l2, lists of one's own, of data -/
theorem ptd_neO {l1 l2 : Addr} {es : List D} {n m : Nat} (hu : X.A.units + 64 < cLine) (ha : PV X a ρ M (.ref l1)) (h1 : M l1 = some (.lst (ds.map Sl.d))) (hb : PV X b ρ M (.ref l2)) (h2 : M l2 = some (.lst (es.map Sl.d))) (k1 : okD n (.list ds)) (k2 : okD m (.list es)) (hn : n ≤ 60) (hm' : m ≤ 60)
    (hm : behindInMarks .NotEq b = false := by first | exact nobehind _ (by decide) (by decide) | rfl) : PTD X (.Compare a [.NotEq] [b] pos) ρ M (!PyData.eqv (.list ds) (.list es)) :=
  ptd_of (pt_cmpR (op_neD hu) pe_w pe_w hm) fun Hs H σ Q r q k => ha.run Hs H σ _ r q fun Hs1 H1 g1 => hb.run Hs1 H1 σ _ (r.grow g1) (q.mono g1.s) fun Hs2 H2 g2 => by
    have r2 := r.grow (g1.trans g2)
    have key : ∀ (l : Addr) (ds : List D) (n : Nat), M l = some (.lst (ds.map Sl.d)) → okD n (.list ds) → Dp X.K H2 (.ref l) (.list ds) := fun l ds n h ko => by
      obtain ⟨_, o', h2, h3⟩ := r2.m l _ h
      obtain ⟨vs, rfl, pr⟩ := rep_lst h3
      exact (Dq.lst (.inl (.of h2)) (dpAll_mono r2.i (paired_data pr))).dp (lay_of_ok n _ ko).1
    exact ⟨_, _, key l1 ds n h1 k1, key l2 es m h2 k2, shaped_ok k1 hn, shaped_ok k2 hm', _, rfl, k Hs2 H2 (g1.trans g2)⟩
/-! ### methods of what is just made -/
theorem px_methR0 {k : Nat} {m : Str} {ps : List Str} {F : RSp} {pl : Sem Bool} (h : MetR X.prog X.w X.K X.mg X.base k C m ps F) (c : Cls X.K C) (hr : Room k X.A) (ho : PX X o ρ M fun s M1 => ∃ (ad dx : Addr) (gs : List (Str × Sl)) (d : D), s = .v (.ref ad) ∧ M1 ad = some (.ins C dx gs) ∧ gs.lookup m = none ∧ F [.v (.ref ad)] M1 d ∧ Φ (.d d) M1)
    (ht : eval (.Call (.Attribute o m apos) [] [] pos) X.env = (do
      let ov ← eval o X.env
      standAt apos.atName
      let (f, first) ← holding [ov] (getMethod ov m pl)
      callWith pos f first (backTo pos (starEach [] X.env)) (backToKw pos (keywordEach [] X.env))) := by rfl) : PX X (.Call (.Attribute o m apos) [] [] pos) ρ M Φ := by
  obtain ⟨f, fd, F1, hM, hb⟩ := h.ex
  exact ⟨fun Hs H σ Q r q k => PE.w (pe_meth0 pe_w c hM F1 hr hb .nil pass0 ht) (ho.run Hs H σ _ r q fun v s Hs1 H1 M1 r1 f1 p1 ⟨ad, dx, gs, d, e, hm, hn, hF, hΦ⟩ => by
    subst e
    cases (show some v = some (.ref ad) from p1)
    obtain ⟨_, o, h2, h3⟩ := r1.m ad _ hm
    obtain ⟨fs, rfl, pr⟩ := rep_ins h3
    exact ⟨ad, dx, fs, rfl, h2, (look_fld pr).2 hn, Hs1, M1, _, d, r1, .cons slv_v .nil, hF, fun v' Hs3 H3 g3 p3 => k v' _ Hs3 H3 M1 (r1.grow g3) (f1.trans g3.fr) (slv_d p3) hΦ⟩)⟩
theorem px_methR1 {k : Nat} {m : Str} {ps : List Str} {F : RSp} {pl : Sem Bool} (h : MetR X.prog X.w X.K X.mg X.base k C m ps F) (c : Cls X.K C) (hr : Room k X.A) (ho : PX X o ρ M fun s M1 => ∃ (ad dx : Addr) (gs : List (Str × Sl)) (ds : List D) (d : D), s = .v (.ref ad) ∧ M1 ad = some (.ins C dx gs) ∧ gs.lookup m = none ∧ PDs X (e :: es) ρ M1 ds ∧ F (.v (.ref ad) :: ds.map Sl.d) M1 d ∧ Φ (.d d) M1)
    (hst : starEach (e :: es) X.env = (false, eval e X.env) :: starEach es X.env := by rfl) (hpl : (backTo pos (starEach es X.env)).any (·.1) = false := by rfl)
    (ht : eval (.Call (.Attribute o m apos) (e :: es) [] pos) X.env = (do
      let ov ← eval o X.env
      standAt apos.atName
      let (f, first) ← holding [ov] (getMethod ov m pl)
      callWith pos f first (backTo pos (starEach (e :: es) X.env)) (backToKw pos (keywordEach [] X.env))) := by rfl) : PX X (.Call (.Attribute o m apos) (e :: es) [] pos) ρ M Φ := by
  obtain ⟨f, fd, F1, hM, hb⟩ := h.ex
  exact ⟨fun Hs H σ Q r q k => PE.w (pe_meth pe_w c hM F1 hr hb .nil pass0 pa_w hst hpl ht) (ho.run Hs H σ _ r q fun v s Hs1 H1 M1 r1 f1 p1 ⟨ad, dx, gs, ds, d, e, hm, hn, ha, hF, hΦ⟩ => by
    subst e
    cases (show some v = some (.ref ad) from p1)
    obtain ⟨_, o, h2, h3⟩ := r1.m ad _ hm
    obtain ⟨fs, rfl, pr⟩ := rep_ins h3
    exact ⟨ad, dx, fs, rfl, h2, (look_fld pr).2 hn, ha.run Hs1 H1 σ _ r1 (q.mono f1.s) fun vs Hs2 H2 g2 p2 => ⟨Hs2, M1, _, d, r1.grow g2, by rw [List.append_nil]; exact .cons slv_v (slv_all p2), hF, fun v' Hs3 H3 g3 p3 => k v' _ Hs3 H3 M1 ((r1.grow g2).grow g3) ((f1.trans g2.fr).trans g3.fr) (slv_d p3) hΦ⟩⟩)⟩
theorem pd_eqS {s t : Str} (ha : PD X a ρ M (.str s)) (hb : PD X b ρ M (.str t)) : PD X (.Compare a [.Eq] [b] pos) ρ M (.bool (decide (s = t))) :=
  pd_cmp op_eq (fun Hs H v u Q i p q k => by cases p; cases q; exact ⟨rfl, k _ Hs H (.refl i) (by
    have : decide (V.str s = V.str t) = decide (s = t) := by
      by_cases h : s = t
      · subst h; simp
      · rw [decide_eq_false h, decide_eq_false fun q => h (V.str.inj q)]
    rw [this]; exact .bl _)⟩) ha hb
theorem ext_new {a : Addr} {mo : MO} {M : Mem} (h : M a = none) : Ext M (mup M a mo) := fun b o e => by rw [mup_ne (mne e h)]; exact e
theorem px_and (ha : PX X a ρ M fun s M1 => s = .d (.bool true) ∧ PX X (.BoolOp .And (b :: rest) pos) ρ M1 Φ) : PX X (.BoolOp .And (a :: b :: rest) pos) ρ M Φ :=
  ⟨fun Hs H σ Q r q k => PE.w (pe_and pe_w pe_w) (ha.run Hs H σ _ r q fun v s Hs1 H1 M1 r1 f1 p1 ⟨e, h⟩ => by
    subst e
    exact ⟨true, dp_bl p1.dp, iteT (h.run Hs1 H1 σ Q r1 (q.mono f1.s) fun v' s' Hs2 H2 M2 r2 f2 p2 k2 => k v' s' Hs2 H2 M2 r2 (f1.trans f2) p2 k2)⟩)⟩
theorem px_one {op} (ha : PX X a ρ M Φ) : PX X (.BoolOp op [a] pos) ρ M Φ := ⟨fun Hs H σ Q r q k => PE.w (pe_one pe_w) (ha.run Hs H σ Q r q k)⟩
theorem px_eq (hu : X.A.units + 64 < cLine) (h : PX X a ρ M fun s M1 => ∃ x, s = .d x ∧ SeqAt.shaped x = true ∧ PX X b ρ M1 fun s2 M2 => ∃ y, s2 = .d y ∧ SeqAt.shaped y = true ∧ Φ (.d (.bool (PyData.eqv x y))) M2) : PX X (.Compare a [.Eq] [b] pos) ρ M Φ :=
  px_cmp (op_eqD hu) (h.imp fun s M1 ⟨x, e1, hx, h2⟩ => ⟨_, e1, h2.imp fun s2 M2 ⟨y, e2, hy, k2⟩ => ⟨_, _, e2, rd_eqD hx hy, k2⟩⟩)
end
end AB
namespace AB
open PySem PySem.Spec PyProof.Rows L2 LamX
theorem paired_set {α β : Type} {R : α → β → Prop} : ∀ {vs : List α} {ss : List β}, Paired R vs ss → ∀ (n : Nat) {v : α} {s : β}, R v s → Paired R (vs.set n v) (ss.set n s)
  | _, _, .nil, n, v, s, h => .nil
  | _, _, .cons a b, 0, v, s, h => .cons h b
  | _, _, .cons a b, n + 1, v, s, h => .cons a (paired_set b n h)
section
variable {X : Cx} {ρ : Env} {M : Mem} {tg a b e elt iter : Expr} {pos p tpos : Pos} {l l1 l2 : Addr} {ss ss1 ss2 : List Sl} {Φ : Post} {body : List Stmt} {items : List D} {scope : Scope}
/-- for x in l, l a list of one's own, of things of any kind -/
theorem ds_forS (k t : Nat) {x y : Str} {px : Pos} (W : Nat → Env → Mem → Prop) (hp : PassesOwn (model X.prog X.w) X.A X.env X.xe) (hc : X.calm = true) (hN' : X.N.Nodup) (hl : ρ[k]? = some (.v (.ref l))) (h0 : W 0 ρ M) (hM : ∀ i ρ' M', W i ρ' M' → M' l = some (.lst ss))
    (ht : ∀ i s ρ' M', ss[i]? = some s → W i ρ' M' → DSs X body (ρ'.set t s) M' { Φ with nx := W (i + 1), ct := W (i + 1), bk := Φ.nx }) (hd : ∀ ρ' M', W ss.length ρ' M' → Φ.nx ρ' M')
    (hN : X.N[k]? = some x := by rfl) (hv : Vis X.env.scope x := by first | exact Or.inl rfl | exact Or.inr (Or.inl rfl) | exact Or.inr (Or.inr rfl)) (hdb : (x == ("__debug__" : Str)) = false := by decide) (hcd : (x == ("__classdict__" : Str)) = false := by decide)
    (hty : X.N[t]? = some y := by rfl) (hy : Loc X.env.scope y := by first | exact Or.inl rfl | exact Or.inr rfl) (hfy : X.fn y = true ∨ X.env.scope.names.lookup y = some .local := by first | exact .inl rfl | exact .inr rfl | assumption)
    (hs : ∀ z, foldedSetIterable (.Name x p) X.env z = pure z := by intro _; rfl) : DS X (.For (.Name y px) (.Name x p) body [] pos) ρ M Φ :=
  ⟨fun Hs H σ E r q a => PS.w (ps_for hp hc (pi_list (pe_var hN hv hdb hcd)) (pg_name hN' hty hy hfy) pss_w hs) (by
    have own : ∀ {i Hs' H' ρ' M'}, RelM X.K Hs' H' M' → W i ρ' M' → ∃ vs, H' l = some (.lst vs) ∧ Paired (SlV X.K Hs') vs ss := fun {i Hs' H' ρ' M'} r' w' => by
      obtain ⟨h1, o, h2, h3⟩ := r'.m l _ (hM i ρ' M' w')
      obtain ⟨vs, rfl, pr⟩ := rep_lst h3
      exact ⟨vs, h2, pr⟩
    obtain ⟨vs0, e0, _⟩ := own r h0
    refine ⟨.ref l, q.getV hl, l, rfl, ⟨vs0, .of e0⟩, ?_⟩
    refine ⟨fun i m σ' H' => m = ss.length - i ∧ i ≤ ss.length ∧ ∃ Hs' M' ρ', RelM X.K Hs' H' M' ∧ Fr Hs H M Hs' H' M' ∧ EnvR X.K Hs' σ' ρ' ∧ W i ρ' M', ⟨ss.length, by simp, Nat.zero_le _, Hs, M, ρ, r, .refl, q, h0⟩, ?_⟩
    rintro j m σ' H' ⟨rfl, hj, Hs', M', ρ', r', f', q', w'⟩
    obtain ⟨vs, e1, p1⟩ := own r' w'
    have hlen : vs.length = ss.length := Paired.length p1
    by_cases hlt : j < ss.length
    · have hl2 : j < vs.length := by rw [hlen]; exact hlt
      refine .inr ⟨⟨vs, vs[j], .of e1, List.getElem?_eq_getElem hl2⟩, fun σ2 H2 => ∃ Hs2 M2 ρ2, RelM X.K Hs2 H2 M2 ∧ Fr Hs H M Hs2 H2 M2 ∧ EnvR X.K Hs2 σ2 ρ2 ∧ W (j + 1) ρ2 M2, fun σ2 H2 w => ⟨_, by omega, rfl, hlt, w⟩, fun x H2 y => ?_⟩
      obtain ⟨s, hs'⟩ : ∃ s, ss[j]? = some s := ⟨_, List.getElem?_eq_getElem hlt⟩
      obtain ⟨rfl, y⟩ := y
      obtain ⟨v, g1, g2⟩ := paired_get p1 j s hs'
      have := y vs (.of e1)
      rw [g1] at this
      cases this
      refine (ht j s ρ' M' hs' w').run Hs' _ _ _ r' (q'.set t (s := s) g2) ⟨fun Hs3 H3 M3 σ3 ρ3 r3 f3 q3 k => ⟨Hs3, M3, ρ3, r3, f'.trans f3, q3, k⟩, fun Hs3 H3 M3 v s r3 f3 q3 k => a.rt Hs3 H3 M3 v s r3 (f'.trans f3) q3 k, fun Hs3 H3 M3 σ3 ρ3 r3 f3 q3 k => a.nx Hs3 H3 M3 σ3 ρ3 r3 (f'.trans f3) q3 k, fun Hs3 H3 M3 σ3 ρ3 r3 f3 q3 k => ⟨Hs3, M3, ρ3, r3, f'.trans f3, q3, k⟩⟩
    · have ej : j = ss.length := by omega
      subst ej
      exact .inl ⟨⟨vs, .of e1, by rw [hlen]; exact Nat.le_refl _⟩, a.nx Hs' H' M' σ' ρ' r' f' q' (hd ρ' M' w')⟩)⟩
/-- for x, y in zip(l1, l2), lists of one's own -/
theorem ds_forZ (t1 t2 : Nat) {x y : Str} {px py pz : Pos} {kt : Nat} (W : Nat → Env → Mem → Prop) (hp : PassesOwn (model X.prog X.w) X.A X.env X.xe) (hc : X.calm = true) (hN' : X.N.Nodup) (hg : Gl X "zip") (hm : X.mg "zip" = none) (ha : PV X a ρ M (.ref l1)) (hb : PV X b ρ M (.ref l2)) (hlen : ss1.length = ss2.length) (h0 : W 0 ρ M)
    (hM1 : ∀ i ρ' M', W i ρ' M' → M' l1 = some (.lst ss1)) (hM2 : ∀ i ρ' M', W i ρ' M' → M' l2 = some (.lst ss2))
    (ht : ∀ i s1 s2 ρ' M', ss1[i]? = some s1 → ss2[i]? = some s2 → W i ρ' M' → DSs X body ((ρ'.set t1 s1).set t2 s2) M' { Φ with nx := W (i + 1), ct := W (i + 1), bk := Φ.nx }) (hd : ∀ ρ' M', W ss1.length ρ' M' → Φ.nx ρ' M')
    (hx1 : X.N[t1]? = some x := by rfl) (hx : Loc X.env.scope x := by first | exact Or.inl rfl | exact Or.inr rfl) (hfx : X.fn x = true ∨ X.env.scope.names.lookup x = some .local := by first | exact .inl rfl | exact .inr rfl | assumption)
    (hy1 : X.N[t2]? = some y := by rfl) (hy : Loc X.env.scope y := by first | exact Or.inl rfl | exact Or.inr rfl) (hfy : X.fn y = true ∨ X.env.scope.names.lookup y = some .local := by first | exact .inl rfl | exact .inr rfl | assumption)
    (hs' : starEach [a, b] X.env = (false, eval a X.env) :: starEach [b] X.env := by rfl) (hs2 : starEach [b] X.env = (false, eval b X.env) :: starEach [] X.env := by rfl) (hpl : (backTo p (starEach [b] X.env)).any (·.1) = false := by rfl)
    (hs : ∀ z, foldedSetIterable (.Call (.Name "zip" pz) [a, b] [] p) X.env z = pure z := by intro _; rfl) : DS X (.For (.Tuple [.Name x px, .Name y py] kt tpos) (.Call (.Name "zip" pz) [a, b] [] p) body [] pos) ρ M Φ :=
  ⟨fun Hs H σ E r q ac => PS.w (ps_for hp hc (RZ.pi_zipA hg hm (pa_cons pe_w (pa_cons pe_w pa_nil hs2) hs') hs' hpl) (pg_tup (n := 2) hc (pgs_cons (pg_name hN' hx1 hx hfx) (pgs_cons (pg_name hN' hy1 hy hfy) pgs_nil))) pss_w hs) (ha.run Hs H σ _ r q fun Hs1 H1 g1 => hb.run Hs1 H1 σ _ (r.grow g1) (q.mono g1.s) fun Hs2 H2 g2 => by
    have own : ∀ {l : Addr} {ss : List Sl} {Hs' H' M'}, RelM X.K Hs' H' M' → M' l = some (.lst ss) → ∃ vs, H' l = some (.lst vs) ∧ Paired (SlV X.K Hs') vs ss := fun {l ss Hs' H' M'} r' e => by
      obtain ⟨h1, o, h2, h3⟩ := r'.m l _ e
      obtain ⟨vs, rfl, pr⟩ := rep_lst h3
      exact ⟨vs, h2, pr⟩
    have r2 := r.grow (g1.trans g2)
    obtain ⟨vs0, e0, p0⟩ := own r2 (hM1 0 ρ M h0)
    obtain ⟨us0, d0, q0⟩ := own r2 (hM2 0 ρ M h0)
    refine ⟨l1, l2, vs0, us0, rfl, .inl ⟨.inl (.of e0), .inl (.of d0), ?_⟩⟩
    refine ⟨fun i m σ' H' => m = ss1.length - i ∧ i ≤ ss1.length ∧ ∃ Hs' M' ρ', RelM X.K Hs' H' M' ∧ Fr Hs H M Hs' H' M' ∧ EnvR X.K Hs' σ' ρ' ∧ W i ρ' M', ⟨ss1.length, by simp, Nat.zero_le _, Hs2, M, ρ, r2, (g1.trans g2).fr, q.mono (g1.trans g2).s, h0⟩, ?_⟩
    rintro j m σ' H' ⟨rfl, hj, Hs', M', ρ', r', f', q', w'⟩
    obtain ⟨vs, e1, p1⟩ := own r' (hM1 j ρ' M' w')
    obtain ⟨us, d1, p2⟩ := own r' (hM2 j ρ' M' w')
    have hlv : vs.length = ss1.length := Paired.length p1
    have hlu : us.length = ss2.length := Paired.length p2
    by_cases hlt : j < ss1.length
    · have hl2 : j < vs.length := by omega
      have hl3 : j < us.length := by omega
      refine .inr ⟨⟨vs, us, vs[j], us[j], .inl (.of e1), .inl (.of d1), List.getElem?_eq_getElem hl2, List.getElem?_eq_getElem hl3⟩, fun σ2 H2 => ∃ Hs2 M2 ρ2, RelM X.K Hs2 H2 M2 ∧ Fr Hs H M Hs2 H2 M2 ∧ EnvR X.K Hs2 σ2 ρ2 ∧ W (j + 1) ρ2 M2, fun σ2 H2 w => ⟨_, by omega, rfl, hlt, w⟩, fun z H3 y => ?_⟩
      obtain ⟨s1, hs1⟩ : ∃ s, ss1[j]? = some s := ⟨_, List.getElem?_eq_getElem hlt⟩
      obtain ⟨s2, hs2'⟩ : ∃ s, ss2[j]? = some s := ⟨_, List.getElem?_eq_getElem (by omega)⟩
      obtain ⟨T, v, w, rfl, hT, rfl, y1, y2⟩ := y
      obtain ⟨v', a1, a2⟩ := paired_get p1 j s1 hs1
      obtain ⟨w', b1, b2⟩ := paired_get p2 j s2 hs2'
      have z1 := y1 vs (.inl (.of e1))
      have z2 := y2 us (.inl (.of d1))
      rw [a1] at z1; cases z1
      rw [b1] at z2; cases z2
      refine ⟨T, [_, _], rfl, SqT.of upd_same, rfl, _, _, rfl, _, _, rfl, rfl, ?_⟩
      refine (ht j s1 s2 ρ' M' hs1 hs2' w').run Hs' _ _ _ (r'.grow (.newH r'.i hT)) ((q'.set t1 (s := s1) a2).set t2 (s := s2) b2) ⟨fun Hs3 H3 M3 σ3 ρ3 r3 f3 q3 k => ⟨Hs3, M3, ρ3, r3, (f'.trans (Grow.fr (.newH r'.i hT))).trans f3, q3, k⟩, fun Hs3 H3 M3 v s r3 f3 q3 k => ac.rt Hs3 H3 M3 v s r3 ((f'.trans (Grow.fr (.newH r'.i hT))).trans f3) q3 k, fun Hs3 H3 M3 σ3 ρ3 r3 f3 q3 k => ac.nx Hs3 H3 M3 σ3 ρ3 r3 ((f'.trans (Grow.fr (.newH r'.i hT))).trans f3) q3 k, fun Hs3 H3 M3 σ3 ρ3 r3 f3 q3 k => ⟨Hs3, M3, ρ3, r3, (f'.trans (Grow.fr (.newH r'.i hT))).trans f3, q3, k⟩⟩
    · have ej : j = ss1.length := by omega
      subst ej
      exact .inl ⟨⟨vs, us, .inl (.of e1), .inl (.of d1), by omega⟩, ac.nx Hs' H' M' σ' ρ' r' f' q' (hd ρ' M' w')⟩)⟩
/-- l[i] = e, l a list of one's own -/
theorem ds_iset {i : Int} {n : Nat} {o : Expr} {p2 : Pos} (he : PX X e ρ M fun s M1 => PV X o ρ M1 (.ref l) ∧ M1 l = some (.lst ss) ∧ PD X b ρ M1 (.int i) ∧ ixN ss.length i = some n ∧ Φ.nx ρ (mup M1 l (.lst (ss.set n s))))
    (hs : swapsWithSole [.Subscript o b p2] e pos.line X.env = pure false := by rfl) (hw : swappedStores [.Subscript o b p2] e X.env = pure none := by rfl) (h1 : (assignEach [.Subscript o b p2] X.env).map (·.2) = [assign (.Subscript o b p2) X.env] := by rfl) (hns : ∀ v, assign (.Subscript o b p2) X.env v = (do
      let ov ← holding [v] (eval o X.env)
      let iv ← holding [v, ov] (eval b X.env)
      standAt p2
      holding [v, ov, iv] (setItem ov iv v)
      release [v, ov, iv] []) := by intro _; rfl) : DS X (.Assign [.Subscript o b p2] e pos) ρ M Φ :=
  ⟨fun Hs H σ E r q A => PS.w (ps_asg pe_w (pg_sub pe_w pe_w set_list hns) hs hw h1) (he.run Hs H σ _ r q fun v s Hs1 H1 M1 r1 f1 p1 ⟨ho, hm, hb, hn, h⟩ => ho.run Hs1 H1 σ _ r1 (q.mono f1.s) fun Hs2 H2 g2 => hb.run Hs2 H2 σ _ (r1.grow g2) ((q.mono f1.s).mono g2.s) fun u Hs3 H3 g3 p3 => by
    have g := g2.trans g3
    have r3 := r1.grow g
    obtain ⟨_, o', h2, h3⟩ := r3.m l _ hm
    obtain ⟨vs, rfl, pr⟩ := rep_lst h3
    have hlen : vs.length = ss.length := Paired.length pr
    obtain ⟨r4, f4⟩ := r3.put (o := .lst (vs.set n v)) (mo := .lst (ss.set n s)) hm (paired_set pr n (p1.mono g.s))
    exact ⟨l, vs, i, n, rfl, dp_int p3, h2, by rw [hlen]; exact hn, A.nx Hs3 _ _ _ _ r4 ((f1.trans g.fr).trans f4) ((q.mono f1.s).mono g.s) h⟩)⟩
/-- l != [], l a list of one's own, of data -/
theorem ptd_ne0 {ds : List D} {n : Nat} {p2 : Pos} (hu : X.A.units + 64 < cLine) (ha : PV X a ρ M (.ref l)) (h1 : M l = some (.lst (ds.map Sl.d))) (k1 : okD n (.list ds)) (hn : n ≤ 60) (hm : behindInMarks .NotEq (.List [] p2) = false := by rfl) : PTD X (.Compare a [.NotEq] [.List [] p2] pos) ρ M (!PyData.eqv (.list ds) (.list [])) :=
  ptd_of (pt_cmpR (op_neD hu) pe_w pe_w hm) fun Hs H σ Q r q k => ha.run Hs H σ _ r q fun Hs1 H1 g1 => (pd_lst (X := X) (pos := p2) pds_nil).run Hs1 H1 σ _ (r.grow g1) (q.mono g1.s) fun u Hs2 H2 g2 p2 => by
    have r2 := r.grow (g1.trans g2)
    obtain ⟨_, o', h2, h3⟩ := r2.m l _ h1
    obtain ⟨vs, rfl, pr⟩ := rep_lst h3
    have k0 : okD 1 (PyData.list []) := okD_lst (by simp) fun _ h => nomatch h
    exact ⟨_, _, (Dq.lst (.inl (.of h2)) (dpAll_mono r2.i (paired_data pr))).dp (lay_of_ok n _ k1).1, (dp_mono r2.i p2).dp (lay_of_ok 1 _ k0).1, shaped_ok k1 hn, shaped_ok k0 (by decide), _, rfl, k Hs2 H2 (g1.trans g2)⟩
/-- [e for x in ..], where e makes things of one's own -/
theorem lcX_run {S : Bool} {own : List (Str × Nat)} {Φe : Sl → Mem → Prop} (W : Addr → Nat → Mem → List Sl → Prop) (hi : PID X S tg iter ρ M items) (hz : items.length ≤ 16777000)
    (h0 : ∀ l, M l = none → W l 0 (mup M l (.lst [])) []) (hW : ∀ l i M' ss, W l i M' ss → M' l = some (.lst ss) ∧ ss.length = i)
    (ht : ∀ l i d M' ss, items[i]? = some d → W l i M' ss → ∃ ρ1 ts, (∀ t ∈ ts, t ∈ own.map (·.2)) ∧ ∀ s H C cl fp, PGD (Blk X scope s H C cl fp) S tg d (wipeE ρ (own.map (·.2))) ρ1 ts ∧ PX (Blk X scope s H C cl fp) elt ρ1 M' fun s M2 => M2 l = some (.lst ss) ∧ W l (i + 1) (mup M2 l (.lst (ss ++ [s]))) (ss ++ [s]))
    (hd : ∀ l M' ss, W l items.length M' ss → Φe (.v (.ref l)) M') (Hs H : Hp) (σ : L2.St) (Q : VK) (r : RelM X.K Hs H M) (q : EnvR X.K Hs σ ρ) (k : ∀ v s Hs' H' M', RelM X.K Hs' H' M' → Fr Hs H M Hs' H' M' → SlV X.K Hs' v s → Φe s M' → Q v H') :
    tLc (tWi X tg iter) (lcG X scope tg) tYes (lcE X scope elt) (own.map (·.2)) σ H Q := by
  refine hi.run Hs H σ _ r q fun J Hs1 H1 g1 wk Dl hD => ?_
  have i1 : RelM X.K Hs1 H1 M := r.grow g1
  have gD : Grow Hs1 H1 Hs1 (upd H1 Dl (.lst [])) := .newH i1.i hD
  obtain ⟨r0, f0⟩ := i1.new (mo := .lst []) gD hD (i1.i.free hD) upd_same .nil
  refine ⟨fun i m H' => m = items.length - i ∧ i ≤ items.length ∧ ∃ Hs' M' ss, RelM X.K Hs' H' M' ∧ Fr Hs H M Hs' H' M' ∧ Same Hs1 Hs' ∧ W Dl i M' ss, ⟨items.length, by simp, Nat.zero_le _, Hs1, _, [], r0, g1.fr.trans f0, Same.refl _, h0 Dl (none_of i1 hD)⟩, ?_⟩
  rintro j m H' ⟨rfl, hj, Hs', M', ss, r', f', s', w'⟩
  obtain ⟨m1, l1'⟩ := hW Dl j M' ss w'
  by_cases hlt : j < items.length
  · refine .inr ⟨wk.go j H' (s'.trans r'.i) hlt, fun H'' => ∃ Hs2 M2 ss2, RelM X.K Hs2 H'' M2 ∧ Fr Hs H M Hs2 H'' M2 ∧ Same Hs1 Hs2 ∧ W Dl (j + 1) M2 ss2, fun H'' w => ⟨_, by omega, rfl, hlt, w⟩, fun x H2 y => ?_⟩
    obtain ⟨d, hdj⟩ : ∃ d, items[j]? = some d := ⟨_, List.getElem?_eq_getElem hlt⟩
    obtain ⟨Hs2, g2, p2⟩ := wk.yld j Hs' H' x H2 d s' r'.i hdj y
    obtain ⟨ρ1, ts, sub, T⟩ := ht Dl j d M' ss hdj w'
    have rw : EnvR X.K Hs2 (L2.wipe σ (own.map (·.2))) (wipeE ρ (own.map (·.2))) := ((q.mono g1.s).mono (s'.trans g2.s)).wipe _
    intro sA HA C cl fp
    refine (T sA HA C cl fp).1.run Hs2 H2 _ x _ g2.i rw p2 fun σ' r'' o => ⟨?_, ?_⟩
    · rw [wipe_same (own.map (·.2)) (L2.wipe σ (own.map (·.2))) σ' o.1 fun j hj => o.2 j fun z => hj (sub j z), wipe_wipe]
    · show lcE X scope elt σ' H2 (fun y H4 => ∃ acc, H4 Dl = some (.lst acc) ∧ acc.length < sizeLine ∧ ∃ Hs2 M2 ss2, RelM X.K Hs2 (upd H4 Dl (.lst (acc ++ [y]))) M2 ∧ Fr Hs H M Hs2 (upd H4 Dl (.lst (acc ++ [y]))) M2 ∧ Same Hs1 Hs2 ∧ W Dl (j + 1) M2 ss2)
      intro sC HC C2 cl2 fp2
      refine (T sC HC C2 cl2 fp2).2.run Hs2 H2 σ' _ (r'.grow g2) r'' fun v s Hs4 H4 M4 r4 f4 p4 ⟨e4, w4⟩ => ?_
      obtain ⟨_, o', h5, h6⟩ := r4.m Dl _ e4
      obtain ⟨vs, rfl, pr⟩ := rep_lst h6
      have hlen : vs.length = ss.length := Paired.length pr
      obtain ⟨r5, f5⟩ := r4.put (o := .lst (vs ++ [v])) (mo := .lst (ss ++ [s])) e4 (paired_app pr (.cons p4 .nil))
      exact ⟨vs, h5, by have : sizeLine = 16777216 := rfl; omega, Hs4, _, _, r5, ((f'.trans g2.fr).trans f4).trans f5, (s'.trans g2.s).trans f4.s, w4⟩
  · have ej : j = items.length := by omega
    subst ej
    exact .inl ⟨wk.stop H' (s'.trans r'.i), k _ _ Hs' H' M' r' f' slv_v (hd Dl M' ss w')⟩
theorem px_lcX {S : Bool} {own : List (Str × Nat)} {Φe : Sl → Mem → Prop} (W : Addr → Nat → Mem → List Sl → Prop) (hc : X.calm = true) (hN : X.N.Nodup) (ok : BlkOk X.N X.env.scope scope own) (hi : PID X S tg iter ρ M items) (hz : items.length ≤ 16777000)
    (h0 : ∀ l, M l = none → W l 0 (mup M l (.lst [])) []) (hW : ∀ l i M' ss, W l i M' ss → M' l = some (.lst ss) ∧ ss.length = i)
    (ht : ∀ l i d M' ss, items[i]? = some d → W l i M' ss → ∃ ρ1 ts, (∀ t ∈ ts, t ∈ own.map (·.2)) ∧ ∀ s H C cl fp, PGD (Blk X scope s H C cl fp) S tg d (wipeE ρ (own.map (·.2))) ρ1 ts ∧ PX (Blk X scope s H C cl fp) elt ρ1 M' fun s M2 => M2 l = some (.lst ss) ∧ W l (i + 1) (mup M2 l (.lst (ss ++ [s]))) (ss ++ [s]))
    (hd : ∀ l M' ss, W l items.length M' ss → Φe (.v (.ref l)) M') (hs : ∀ x, foldedSetIterable iter X.env x = pure x := by intro _; rfl) : PX X (.ListComp elt [⟨tg, iter, [], 0⟩] scope pos) ρ M Φe :=
  ⟨fun Hs H σ Q r q k => PE.w (pe_lc hc hN pi_w ok lcG_ok (fun s H C cl fp => pts_nil) lcE_ok hs) (lcX_run W hi hz h0 hW ht hd Hs H σ Q r q k)⟩
theorem ds_setLcX (i : Nat) {x : Str} {pos' lpos : Pos} {S : Bool} {own : List (Str × Nat)} (W : Addr → Nat → Mem → List Sl → Prop) (hc : X.calm = true) (hN : X.N.Nodup) (ok : BlkOk X.N X.env.scope scope own) (hi : PID X S tg iter ρ M items) (hz : items.length ≤ 16777000)
    (h0 : ∀ l, M l = none → W l 0 (mup M l (.lst [])) []) (hW : ∀ l i M' ss, W l i M' ss → M' l = some (.lst ss) ∧ ss.length = i)
    (ht : ∀ l i d M' ss, items[i]? = some d → W l i M' ss → ∃ ρ1 ts, (∀ t ∈ ts, t ∈ own.map (·.2)) ∧ ∀ s H C cl fp, PGD (Blk X scope s H C cl fp) S tg d (wipeE ρ (own.map (·.2))) ρ1 ts ∧ PX (Blk X scope s H C cl fp) elt ρ1 M' fun s M2 => M2 l = some (.lst ss) ∧ W l (i + 1) (mup M2 l (.lst (ss ++ [s]))) (ss ++ [s]))
    (hd : ∀ l M' ss, W l items.length M' ss → Φ.nx (ρ.set i (.v (.ref l))) M') (hs : ∀ x, foldedSetIterable iter X.env x = pure x := by intro _; rfl)
    (hx : X.N[i]? = some x := by rfl) (hyl : X.env.scope.names.lookup x = some .local := by rfl)
    (hsw : swapsWith (.ListComp elt [⟨tg, iter, [], 0⟩] scope lpos) (some (.Name x pos')) pos.line X.env = pure true := by exact sw_true rfl rfl rfl rfl) : DS X (.Assign [.Name x pos'] (.ListComp elt [⟨tg, iter, [], 0⟩] scope lpos) pos) ρ M Φ :=
  ⟨fun Hs H σ E r q a => PS.w (ps_setLc hc hN hx hyl hsw pi_w ok lcG_ok (fun s H C cl fp => pts_nil) lcE_ok hs) (lcX_run (Φe := fun s M' => Φ.nx (ρ.set i s) M') W hi hz h0 hW ht hd Hs H σ _ r q fun v s Hs' H' M' r' f' p' k' => a.nx Hs' H' M' _ _ r' f' ((q.mono f'.s).set i (s := s) p') k')⟩
theorem pd_listRg1 {j : Int} {pr p2 : Pos} (hc : X.calm = true) (hgl : Gl X "list") (hml : X.mg "list" = none) (hg : Gl X "range") (hm : X.mg "range" = none) (ha : PD X a ρ M (.int j)) (ok : RgOk 0 j)
    (na : starEach [a] X.env = (false, eval a X.env) :: starEach [] X.env := by rfl) (hs : starEach [.Call (.Name "range" pr) [a] [] p2] X.env = (false, eval (.Call (.Name "range" pr) [a] [] p2) X.env) :: starEach [] X.env := by rfl) :
    PD X (.Call (.Name "list" p) [.Call (.Name "range" pr) [a] [] p2] [] pos) ρ M (.list ((List.range j.toNat).map fun (k : Nat) => .int (k : Int))) :=
  pd_of (pe_listRg hc hgl hml (prg_1 hg hm pe_w na) hs) fun Hs H σ Q r q k => ha.run Hs H σ _ r q fun v Hs1 H1 g1 p1 => ⟨j, dp_int p1, ok, fun l hl => by
    refine k _ (upd Hs1 l (.lst (rgV 0 j))) _ (g1.trans (.new g1.i hl)) (.lst (.inl (.of upd_same)) ?_)
    generalize upd Hs1 l (.lst (rgV 0 j)) = HH
    unfold rgV
    rw [Int.sub_zero]
    generalize List.range j.toNat = ks
    induction ks with
    | nil => exact .nil
    | cons x ks ih => exact .cons (by show Dq X.K HH (.int (0 + (x : Int))) (.int (x : Int)); rw [Int.zero_add]; exact .int _) ih⟩
theorem ptx_val {Ψ : Bool → Mem → Prop} (h : PX X e ρ M fun s M' => ∃ u, s = .d (.bool u) ∧ Ψ u M') (he : ∀ whole, isTrue e X.env whole = (do let v ← whole; standAt e.pos; holding [v] (truthy v)) := by intro _; rfl) : PTX X e ρ M Ψ :=
  ⟨fun Hs H σ Q r q k => PT.w (pt_val pe_w he) (h.run Hs H σ _ r q fun v s Hs1 H1 M1 r1 f1 p1 ⟨u, e1, h1⟩ => by subst e1; exact ⟨u, dp_bl p1.dp, k u Hs1 H1 M1 r1 f1 h1⟩)⟩
end
end AB
namespace AB
open PySem PySem.Spec PyProof.Rows L2
/-! ### texts cut, put together, of numbers -/
section
variable {X : Cx} {M : Mem} {o e : Expr} {ρ : Env} {pos p apos : Pos}
theorem dq_txts {K : Fg} {H : Hp} : ∀ {vs : List V} {xs : List Str}, DqAll K H vs (xs.map .str) → vs = xs.map V.str
  | _, [], h => by cases h; rfl
  | _, x :: xs, h => by
    rw [List.map_cons] at h
    cases h with
    | cons a b => rw [dq_txts b, dp_str a]; rfl
theorem pd_split {s t : Str} (ho : PD X o ρ M (.str s)) (he : PD X e ρ M (.str t)) (ht : (t.length == 0) = false) (hz : s.length + 2 ≤ sizeLine) (hs : starEach [e] X.env = [(false, eval e X.env)] := by rfl) (hbase : attributeBase o "split" X.env (eval o X.env) = eval o X.env := by rfl) (hline : (apos.endLine == pos.line) = true := by rfl) :
    PD X (.Call (.Attribute o "split" apos) [e] [] pos) ρ M (.list ((Txt.split s t).map .str)) :=
  pd_of (pe_split pe_w pe_w hs hbase hline) fun Hs H σ Q i q k => ho.run Hs H σ _ i q fun v Hs1 H1 g1 p1 => ⟨⟨s, dp_str p1⟩, he.run Hs1 H1 σ _ (i.grow g1) (q.mono g1.s) fun v2 Hs2 H2 g2 p2 =>
    ⟨s, t, dp_str p1, by rw [dp_str p2], ht, hz, fun l hl => k _ _ _ ((g1.trans g2).trans (.new g2.i hl)) (.lst (.of upd_same) dpAll_strs')⟩⟩
theorem pd_join {t : Str} {ys : List Str} (ho : PD X o ρ M (.str t)) (he : PD X e ρ M (.list (ys.map .str))) (hz : (ys.map (·.length)).sum + ys.length * t.length ≤ 16777216) (hs : starEach [e] X.env = [(false, eval e X.env)] := by rfl) (hbase : attributeBase o "join" X.env (eval o X.env) = eval o X.env := by rfl) (hline : (apos.endLine == pos.line) = true := by rfl) :
    PD X (.Call (.Attribute o "join" apos) [e] [] pos) ρ M (.str (Txt.join t ys)) :=
  pd_of (pe_join pe_w pe_w hs hbase hline) fun Hs H σ Q i q k => ho.run Hs H σ _ i q fun v Hs1 H1 g1 p1 => ⟨⟨t, dp_str p1⟩, he.run Hs1 H1 σ _ (i.grow g1) (q.mono g1.s) fun v2 Hs2 H2 g2 p2 => by
    obtain ⟨l, vs, rfl, h1, h2⟩ := dp_lst p2
    have e1 := dq_txts h2
    subst e1
    exact ⟨t, l, ys, dp_str p1, rfl, .inl (g2.i.seq h1), hz, k _ _ _ (g1.trans g2) (.str _)⟩⟩
theorem boot_str' : bootBuiltins "str" = some (.type "str") := by decide +kernel
theorem boot_int2 : bootBuiltins "int" = some (.type "int") := by decide +kernel
/-- str(i) -/
theorem pd_strI {i : Int} (hg : Gl X "str") (hm : X.mg "str" = none) (ha : PD X e ρ M (.int i)) (hb : i.natAbs.log2 < 1920) (hs : starEach [e] X.env = (false, eval e X.env) :: starEach [] X.env := by rfl) : PD X (.Call (.Name "str" p) [e] [] pos) ρ M (.str (Str.ofString (toString i))) :=
  pd_of (pe_callTy call_str_int hg hm boot_str' (pa_cons pe_w pa_nil hs) (by decide) (by decide) hs) fun Hs H σ Q r q k => ha.run Hs H σ _ r q fun v Hs1 H1 g1 p1 => ⟨i, by rw [dp_int p1], hb, k _ _ _ g1 (.str _)⟩
/-- str(t), t a text -/
theorem pd_strS {t : Str} (hg : Gl X "str") (hm : X.mg "str" = none) (ha : PD X e ρ M (.str t)) (hs : starEach [e] X.env = (false, eval e X.env) :: starEach [] X.env := by rfl) : PD X (.Call (.Name "str" p) [e] [] pos) ρ M (.str t) :=
  pd_of (pe_callTy SkE.call_str_str hg hm boot_str' (pa_cons pe_w pa_nil hs) (by decide) (by decide) hs) fun Hs H σ Q r q k => ha.run Hs H σ _ r q fun v Hs1 H1 g1 p1 => ⟨t, by rw [dp_str p1], k _ _ _ g1 (.str _)⟩
/-- int(t), t a text of figures -/
theorem pd_intS {t : Str} {n : Int} (hg : Gl X "int") (hm : X.mg "int" = none) (ha : PD X e ρ M (.str t)) (hn : PySem.intText? t = some n) (hz : t.length ≤ 640) (hs : starEach [e] X.env = (false, eval e X.env) :: starEach [] X.env := by rfl) : PD X (.Call (.Name "int" p) [e] [] pos) ρ M (.int n) :=
  pd_of (pe_callTy call_int_str hg hm boot_int2 (pa_cons pe_w pa_nil hs) (by decide) (by decide) hs) fun Hs H σ Q r q k => ha.run Hs H σ _ r q fun v Hs1 H1 g1 p1 => ⟨t, n, by rw [dp_str p1], hn, hz, k _ _ _ g1 (.int _)⟩
end
end AB
namespace AB
open PySem PySem.Spec PyProof.Rows L2 LamX
/-! ### a lambda of one parameter, handed down a recursion and called at its end. lam_start1, can_lam began as the kit's lam_start2, pe_act. -/
theorem un_into {fs fs' : List Addr} {H H1 H2 : Hp} {h h1 h2 : Heap} (a : Un fs [] H H1 h h1) (b : Un fs' [] H1 H2 h1 h2) (hs : ∀ x ∈ fs, x ∈ fs') (hn : ∀ x ∈ fs', x ∉ fs → h.get? x = none) : Un fs [] H H2 h h2 where
  keep := fun c o q n hc hx => b.keep c o (a.keep c o q n hc hx) (a.free c o q n hx) (fun z => by have := hn c z hc; rw [q] at this; cases this) hx
  slot := fun c o q n hc hx => by
    obtain ⟨sl, q1⟩ := a.slot c o q n hc hx
    obtain ⟨sl2, q2⟩ := b.slot c _ q1 (a.free c o q n hx) (hs c hc) hx
    exact ⟨sl2, q2⟩
  free := fun c o q n hx => by
    obtain ⟨o', q1⟩ := a.there c o q hx
    exact b.free c o' q1 (a.free c o q n hx) hx
  there := fun c o q hx => by
    obtain ⟨o', q1⟩ := a.there c o q hx
    exact b.there c o' q1 hx
  tups := fun c xs q => b.tups c xs (a.tups c xs q)
  frzs := fun c o u q => b.frzs c o u (a.frzs c o u q)
  tbls := fun c ps q => by
    obtain ⟨m1, q1⟩ := a.tbls c ps q
    obtain ⟨m2, q2⟩ := b.tbls c _ q1
    exact ⟨m1 ++ m2, by rw [q2, Array.append_assoc]⟩
/-- f may be called with one thing from now on: x is answered with d if F x d. c: its code object, of the name q -/
structure CanCall (P : Program) (w : World) (K : Fg) (mg : Str → Option Value) (base : Heap) (k : Nat) (f c : Addr) (q : Str) (fs : List Addr) (s : Shared) (H : Hp) (F : D → D → Prop) : Prop where
  fn : PySem.W.FnAt f s.heap
  no : H f = none
  nf : f ∉ fs
  run : ∀ (A : Around) (outer : List PySem.Env) (s1 : Shared) (H1 : Hp) (u : Value) (v : V) (Q : VK), Room k A → Env0 P w K mg base A outer s1 H1 → Un fs [] H H1 s.heap s1.heap → RelV v u → H1 c = some (CodeO c q) → spD K (fun ds d => ∃ x, ds = [x] ∧ F x d) [v] H1 Q (fun _ _ _ => False) →
    codeAny (model P w) A (.call (.ref f) ⟨[u], []⟩) (CR CX0 outer P w H1 s1 Q fun _ _ _ => False) s1
theorem FnAt_un {f : Addr} {fs : List Addr} {H H1 : Hp} {h h1 : Heap} (un : Un fs [] H H1 h h1) (hf : PySem.W.FnAt f h) (no : H f = none) (nf : f ∉ fs) : PySem.W.FnAt f h1 := by
  obtain ⟨oc, od, fd, sl, e⟩ := hf
  exact ⟨oc, od, fd, sl, un.keep f _ e no nf (by simp)⟩
theorem CanCall.later {P : Program} {w : World} {K : Fg} {mg : Str → Option Value} {base : Heap} {k : Nat} {f c : Addr} {q : Str} {fs fs' : List Addr} {s s1 : Shared} {H H1 : Hp} {F : D → D → Prop} (C : CanCall P w K mg base k f c q fs s H F)
    (un : Un fs [] H H1 s.heap s1.heap) (hs : ∀ x ∈ fs, x ∈ fs') (hn : ∀ x ∈ fs', x ∉ fs → s.heap.get? x = none) : CanCall P w K mg base k f c q fs' s1 H1 F := by
  have hf := C.fn
  obtain ⟨oc, od, fd, sl, e⟩ := hf
  refine ⟨FnAt_un un C.fn C.no C.nf, un.free f _ e C.no (by simp), fun z => ?_, fun A outer s2 H2 u v Q hr e0 un2 => C.run A outer s2 H2 u v Q hr e0 (un_into un un2 hs hn)⟩
  have := hn f z C.nf
  rw [e] at this; cases this
/-! #### the lambda -/
/-- one parameter a, one captured name b, else globals -/
structure LamS1 (sc scope : Scope) (a b : Str) : Prop where
  kind : scope.kind = .function
  co : scope.isCoroutine = false
  gen : scope.isGenerator = false
  cel : ∀ y ∈ scope.names, y.2 ≠ .cell
  par : scope.names.lookup a = some .local
  fr : scope.names.lookup b = some .free
  free : ∀ y ∈ scope.names, y.2 = .free → sc.names.lookup y.1 = some .cell ∨ sc.names.lookup y.1 = some .free
def lamS1B (sc scope : Scope) (a b : Str) : Bool :=
  decide (scope.kind = .function) && !scope.isCoroutine && !scope.isGenerator && decide (scope.names.lookup a = some .local) && decide (scope.names.lookup b = some .free) &&
    scope.names.all fun y => !decide (y.2 = .cell) && (!decide (y.2 = .free) || decide (sc.names.lookup y.1 = some .cell) || decide (sc.names.lookup y.1 = some .free))
theorem lamS1_by {sc scope : Scope} {a b : Str} (h : lamS1B sc scope a b = true) : LamS1 sc scope a b := by
  unfold lamS1B at h
  simp only [Bool.and_eq_true, Bool.or_eq_true, Bool.not_eq_true', decide_eq_true_eq, decide_eq_false_iff_not, List.all_eq_true] at h
  obtain ⟨⟨⟨⟨⟨h1, h2⟩, h3⟩, h5⟩, h6⟩, h4⟩ := h
  refine ⟨h1, h2, h3, fun y hy => (h4 y hy).1, h5, h6, fun y hy e => ?_⟩
  rcases (h4 y hy).2 with (z | z) | z
  · exact absurd e z
  · exact .inl z
  · exact .inr z
theorem LamS1.has {X : Cx} {scope : Scope} {a b : Str} (L : LamS1 X.env.scope scope a b) (ok : X.Ok) : ∀ y ∈ scope.names, y.2 = .free → ∃ c, X.env.cells.lookup y.1 = some c := fun y hy e => by
  rcases L.free y hy e with k | k
  · exact ok.has _ (.inl k)
  · exact ok.has _ (.inr k)
def lam1Cx (X : Cx) (A : Around) (outer : List PySem.Env) (s : Shared) (H : Hp) (scope : Scope) (f c' : Addr) (a b : Str) : Cx where
  prog := X.prog
  w := X.w
  K := X.K
  mg := X.mg
  base := X.base
  A := A.deeper (lamEnv X scope s.heap.objs.size f c')
  N := [a, b]
  s_0 := s
  H_0 := H
  env := lamEnv X scope s.heap.objs.size f c'
  outer := outer
  stack := lamEnv X scope s.heap.objs.size f c' :: outer
  ex := []
  fn := fun _ => false
  calm := true
  pn := []
  xe := fun e s' => wpAny (model X.prog X.w) (A.deeper (lamEnv X scope s.heap.objs.size f c')) (leaving (lamEnv X scope s.heap.objs.size f c') e) (fun _ s'' => CX0 outer H s (fun _ _ _ => False) e s'') (fun e' s'' => CX0 outer H s (fun _ _ _ => False) e' s'') s'
section
variable {X : Cx} {pins : List (Addr × Obj)} {σ : L2.St} {H HZ : Hp} {s s1 : Shared}
theorem lam_start1 {A : Around} {outer : List PySem.Env} {scope : Scope} {f c' : Addr} {h₁ : Heap} {tk j : Nat} {a b : Str} {v vb : V} {u : Value} (I : Inv X pins σ H s) (L : LamS1 X.env.scope scope a b) (e0 : Env0 X.prog X.w X.K X.mg X.base A outer s1 HZ) (hd : A.handled = none)
    (un : Un (frs X.stack) [] H HZ s.heap s1.heap) (hns : h₁.Ns s1.heap.objs.size fun y => ([(a, u)] : List (Str × Value)).reverse.lookup y) (kp : ∀ b o, s1.heap.get? b = some o → h₁.get? b = some o)
    (rv : RelV v u) (hj : X.N[j]? = some b) (hb : σ[j]? = some (some vb)) :
    Inv (lam1Cx X A outer s1 HZ scope f c' a b) [] [some v, some vb] HZ { s1 with heap := h₁, toks := tk } := by
  have hfree := L.has I.ok
  have cm : ∀ {y c}, (cloFrom X.env.cells scope.names []).lookup y = some c → X.env.cells.lookup y = some c := fun {y c} e => by
    rcases cloFrom_mem (PySem.mem_of_lookup e) with hm | ⟨h1, h2⟩
    · cases hm
    · obtain ⟨c1, hc⟩ := hfree _ h1 rfl
      have hc : X.env.cells.lookup y = some c1 := hc
      have e2 : c = c1 := by
        rw [h2, hc] <;> rfl
      rw [e2]
      exact hc
  have look : ∀ {y}, scope.names.lookup y = some .free → ∃ c, (cloFrom X.env.cells scope.names []).lookup y = some c := fun {y} hl => by
    have hy : (y, NameKind.free) ∈ scope.names := PySem.mem_of_lookup hl
    exact mem_lookup (cloFrom_has (cells := X.env.cells) (acc := []) hy)
  have cellK : ∀ {c : Addr} {v : Option Value}, H c = none → s.heap.IsCell c v → h₁.IsCell c v := fun {c v} n ⟨o, ho, hd⟩ => by
    obtain ⟨sl, q⟩ := un.any ho n (by simp)
    exact ⟨_, kp _ _ q, hd⟩
  have noA : ∀ x : Addr, x ∉ (lam1Cx X A outer s1 HZ scope f c' a b).ex := fun x z => absurd (show x ∈ ([] : List Addr) from z) (by simp)
  refine ⟨⟨e0.mod, L.kind, rfl, rfl, Nat.le_refl _, fun y z c e1 e2 => I.ok.inj y z c (cm e1) (cm e2), fun y hy => ?_, fun y c z _ => ?_, fun _ => hd, Around.frames_deeper e0.frames, .inr ⟨rfl, rfl⟩, fun b z => absurd z (noA b), e0.bs, e0.bsz, fun b _ _ => noA b,
      fun b z => absurd z (noA b), e0.funs, e0.frf⟩,
    rfl, e0.bare, Un.kept kp, ⟨_, hns, fun i y v' e1 e2 e3 => ?_⟩, fun y c e => ?_, e0.hok.fresh (Nat.le_refl _), fun y c e => ?_, fun q hq => absurd (show q ∈ ([] : List (Addr × Obj)) ++ [] from hq) (by simp), e0.hok.kept kp, rfl⟩
  · have hy : scope.names.lookup y = some .cell ∨ scope.names.lookup y = some .free := hy
    rcases hy with hy | hy
    · exact absurd rfl (L.cel _ (PySem.mem_of_lookup hy))
    · exact look hy
  · have z : false = true := z
    cases z
  · have e1 : ([a, b] : List Str)[i]? = some y := e1
    match i, e1, e2 with
    | 0, e1, e2 =>
      cases (Option.some.inj e1)
      have e2 : some (some v) = some (some v') := e2
      cases e2
      refine ⟨u, rv, .inl ⟨L.par, ?_⟩⟩
      show ([(a, u)] : List (Str × Value)).reverse.lookup a = some u
      simp [List.lookup]
    | 1, e1, e2 =>
      cases (Option.some.inj e1)
      have e2 : some (some vb) = some (some v') := e2
      cases e2
      obtain ⟨m, hn, hl⟩ := I.loc
      have k := L.fr
      have hvis : Vis X.env.scope b := (L.free _ (PySem.mem_of_lookup k) rfl).elim (fun k => .inr (.inl k)) (fun k => .inr (.inr k))
      obtain ⟨w', r, q⟩ := hl j b vb hj hb hvis
      obtain ⟨c2, h2⟩ := look k
      refine ⟨w', r, .inr ⟨.inr k, c2, h2, ?_⟩⟩
      have c1 := cm h2
      rcases q with ⟨k', _⟩ | ⟨_, c3, e', z⟩
      · have k' : X.env.scope.names.lookup b = some .local := k'
        rcases L.free _ (PySem.mem_of_lookup k) rfl with k2 | k2 <;> rw [show X.env.scope.names.lookup b = _ from k2] at k' <;> cases k'
      · rw [c1] at e'
        cases e'
        exact cellK (I.freeC b _ c1) z
    | i + 2, e1, e2 => simp at e1
  · obtain ⟨w', z⟩ := I.cell y c (cm e)
    exact ⟨w', cellK (I.freeC y c (cm e)) z⟩
  · obtain ⟨v, o, ho, hd⟩ := I.cell y c (cm e)
    exact un.free c o ho (I.freeC y c (cm e)) (by simp)
/-- the lambda just made may be called -/
theorem can_lam {scope : Scope} {f c' : Addr} {a b : Str} {params : Arguments} {body : Expr} {pm ctv : Value} {k j : Nat} {n : Int} {F : D → D → Prop} (I : Inv X pins σ H s) (L : LamS1 X.env.scope scope a b)
    (hf : s.heap.get? f = some (PySem.W.kla_obj "<lambda>" (X.env.qual ++ "<lambda>") params body scope (cloFrom X.env.cells scope.names []) pm c' ctv)) (hfn : H f = none) (hfr : f ∉ frs X.stack)
    (hbind : ∀ u : Value, bindArgs (PySem.W.kla_fn "<lambda>" (X.env.qual ++ "<lambda>") params body scope (cloFrom X.env.cells scope.names []) pm (.ref c') ctv) ⟨[u], []⟩ = pure [(a, u)])
    (hj : X.N[j]? = some b) (hb : σ[j]? = some (some (.int n)))
    (hbody : ∀ (A : Around) (outer : List PySem.Env) (s : Shared) (H : Hp) (x d : D), Room k (A.deeper (lamEnv X scope s.heap.objs.size f c')) → F x d → PD (lam1Cx X A outer s H scope f c' a b) body [.d x, .d (.int n)] m0 d) :
    CanCall X.prog X.w X.K X.mg X.base (k + 1) f c' (X.env.qual ++ "<lambda>") (frs X.stack) s H F := by
  refine ⟨⟨_, _, _, _, hf⟩, hfn, hfr, fun A outer s1 H1 u v Q hr e0 un rv hc hsp => ?_⟩
  obtain ⟨Hs, ds, d, i, p, ⟨x, rfl, hF⟩, kk⟩ := hsp
  have of1 := un.keep f _ hf hfn hfr (by simp)
  obtain ⟨⟨oc, vs, t, hoc, hdc, hvc⟩, _, _⟩ := e0.hok c' _ hc
  have lim : s1.heap.NoLimit := e0.mod.nolimit.keeps fun b o e => (e0.bs b o e).1
  refine PySem.W.kla_callFunE hr.depth of1 rfl L.co L.gen rfl ⟨c', oc, vs, t, rfl, hoc, hdc, hvc⟩ ?_
  rw [hbind]
  refine wpAny_pure (wpAny_newFunctionEnv L.cel (fun y hy => by rw [List.mem_singleton.mp hy]; exact L.par) (fun h₁ hns hsb => ⟨lim.fresh _ hsb, ?_⟩) L.kind)
  show codeAny _ _ (.expr body (lamEnv X scope s1.heap.objs.size f c')) _ _
  have kp : ∀ b o, s1.heap.get? b = some o → h₁.get? b = some o := fun b o e => hsb.extBut b o (Nat.ne_of_lt (Heap.lt_size e)) (Heap.get?_push_of_some _ e)
  have J := lam_start1 (A := A) (outer := outer) (f := f) (c' := c') (tk := s1.toks + ([(a, u)] : List (Str × Value)).length) I L e0 hr.hd un hns kp rv hj hb
  cases p with
  | cons p1 p2 =>
  have hq : tWe (lam1Cx X A outer s1 H1 scope f c' a b) body [some v, some (.int n)] H1 Q := (hbody A outer s1 H1 x d (hr.deeper _) hF).run Hs H1 [some v, some (.int n)] Q (.none i) ⟨rfl, fun i o s e1 e2 => by
    match i, e1, e2 with
    | 0, e1, e2 => cases (Option.some.inj e1); cases (Option.some.inj e2); exact ⟨v, rfl, p1⟩
    | 1, e1, e2 => cases (Option.some.inj e1); cases (Option.some.inj e2); exact ⟨_, rfl, .int _⟩
    | i + 2, e1, e2 => simp at e1⟩ kk
  refine PySem.W.kla_codeExpr (wpAny_mono (hq [] _ J) (fun v s' hq => ?_) fun e s' hq => hq)
  obtain ⟨w', H', J', rv, q⟩ := hq
  exact ⟨w', H', J'.os, J'.bare, J'.base, J'.hok, rv, q⟩
end
/-- a code object's mark may lie among what does not change -/
theorem relm_code {K : Fg} {Hs H : Hp} {M : Mem} {c : Addr} {q : Str} (r : RelM K Hs H M) (h : H c = some (CodeO c q)) : ∃ Hs1, RelM K Hs1 H M ∧ Same Hs Hs1 ∧ Hs1 c = some (CodeO c q) := by
  have key : ∀ a mo, M a = some mo → a ≠ c := fun a mo e z => by
    obtain ⟨_, o, e1, e2⟩ := r.m a mo e
    rw [z, h] at e1
    cases e1
    cases mo <;> exact e2
  have hs : Same Hs (upd Hs c (CodeO c q)) := fun b o e => by
    by_cases hb : b = c
    · subst hb
      have := r.i _ _ e
      rw [h] at this
      rw [upd_same]; exact this
    · rw [upd_ne hb]; exact e
  refine ⟨upd Hs c (CodeO c q), ⟨fun b o e => ?_, fun a mo e => ?_⟩, hs, upd_same⟩
  · by_cases hb : b = c
    · subst hb; rw [upd_same] at e; rw [h]; exact e
    · rw [upd_ne hb] at e; exact r.i _ _ e
  · obtain ⟨n, o, e1, e2⟩ := r.m a mo e
    exact ⟨by rw [upd_ne (key a mo e)]; exact n, o, e1, e2.mono hs⟩
/-! #### readings while a code object's mark is kept -/
structure PDg (c : Addr) (q : Str) (X : Cx) (e : Expr) (ρ : Env) (M : Mem) (d : D) : Prop where
  run : ∀ (Hs H : Hp) (σ : L2.St) (Q : VK), Hs c = some (CodeO c q) → RelM X.K Hs H M → EnvR X.K Hs σ ρ → (∀ v Hs' H', Grow Hs H Hs' H' → Dq X.K Hs' v d → Q v H') → tWe X e σ H Q
structure DSg (c : Addr) (q : Str) (X : Cx) (st : Stmt) (ρ : Env) (M : Mem) (Φ : Post) : Prop where
  run : ∀ (Hs H : Hp) (σ : L2.St) (E : Ends), Hs c = some (CodeO c q) → RelM X.K Hs H M → EnvR X.K Hs σ ρ → Acc X.K Hs H M Φ E → tWs X st E σ H
structure DSsg (c : Addr) (q : Str) (X : Cx) (sts : List Stmt) (ρ : Env) (M : Mem) (Φ : Post) : Prop where
  run : ∀ (Hs H : Hp) (σ : L2.St) (E : Ends), Hs c = some (CodeO c q) → RelM X.K Hs H M → EnvR X.K Hs σ ρ → Acc X.K Hs H M Φ E → tWss X sts E σ H
section
variable {c : Addr} {q : Str} {X : Cx} {st : Stmt} {sts sa sb : List Stmt} {e t : Expr} {ρ : Env} {M : Mem} {Φ : Post} {d : D} {pos : Pos} {b : Bool}
theorem DS.g (h : DS X st ρ M Φ) : DSg c q X st ρ M Φ := ⟨fun Hs H σ E _ => h.run Hs H σ E⟩
theorem DSs.g (h : DSs X sts ρ M Φ) : DSsg c q X sts ρ M Φ := ⟨fun Hs H σ E _ => h.run Hs H σ E⟩
theorem dssg_cons (h : DSg c q X st ρ M { Φ with nx := fun ρ' M' => DSsg c q X sts ρ' M' Φ }) : DSsg c q X (st :: sts) ρ M Φ :=
  ⟨fun Hs H σ E hc r q a => PSs.w (pss_cons ps_w pss_w) (h.run Hs H σ _ hc r q ⟨fun Hs' H' M' σ' ρ' r' f q' k => k.run Hs' H' σ' E (f.s _ _ hc) r' q' (a.fr f), a.rt, a.bk, a.ct⟩)⟩
theorem dssg_one (h : DSg c q X st ρ M Φ) : DSsg c q X [st] ρ M Φ := ⟨fun Hs H σ E hc r q a => PSs.w (pss_one ps_w) (h.run Hs H σ E hc r q a)⟩
theorem dsg_set (i : Nat) {x : Str} {pos' : Pos} (hN : X.N.Nodup) (he : PDg c q X e ρ M d) (h : Φ.nx (ρ.set i (.d d)) M) (hi : X.N[i]? = some x := by rfl) (hx : Loc X.env.scope x := by first | exact Or.inl rfl | exact Or.inr rfl) (hs : swapsWith e (some (.Name x pos')) pos.line X.env = pure false := by rfl)
    (hf : X.fn x = true ∨ X.env.scope.names.lookup x = some .local := by first | exact .inl rfl | exact .inr rfl | assumption) : DSg c q X (.Assign [.Name x pos'] e pos) ρ M Φ :=
  ⟨fun Hs H σ E hc r q a => PS.w (ps_set hN hi hx pe_w hs hf) (he.run Hs H σ _ hc r q fun v Hs1 H1 g p => a.nx Hs1 H1 M _ _ (r.grow g) g.fr ((q.mono g.s).set i (s := .d d) ⟨v, rfl, p⟩) h)⟩
theorem dsg_ret (he : PDg c q X e ρ M d) (h : Φ.rt (.d d) M) : DSg c q X (.Return (some e) pos) ρ M Φ :=
  ⟨fun Hs H σ E hc r q a => PS.w (ps_ret pe_w) (he.run Hs H σ _ hc r q fun v Hs1 H1 g p => a.rt Hs1 H1 M v (.d d) (r.grow g) g.fr (slv_d p) h)⟩
theorem dsg_if (ht : PTD X t ρ M b) (h1 : b = true → DSsg c q X sa ρ M Φ) (h2 : b = false → DSsg c q X sb ρ M Φ) : DSg c q X (.If t sa sb pos) ρ M Φ :=
  ⟨fun Hs H σ E hc r q a => PS.w (ps_if pt_w pss_w pss_w) (ht.run Hs H σ _ r q fun Hs1 H1 g => by
    cases b with
    | true => exact iteT ((h1 rfl).run Hs1 H1 σ E (g.s _ _ hc) (r.grow g) (q.mono g.s) (a.fr g.fr))
    | false => exact iteF ((h2 rfl).run Hs1 H1 σ E (g.s _ _ hc) (r.grow g) (q.mono g.s) (a.fr g.fr)))⟩
end
end AB
namespace AB
open PySem PySem.Spec PyProof.Rows L2 LamX
/-! ### defs whose last argument is such a lambda -/
abbrev SpF := (D → D → Prop) → List D → D → Prop
structure FnOkF (P : Program) (w : World) (K : Fg) (mg : Str → Option Value) (base : Heap) (k kl : Nat) (g : Addr) (fd : FuncData) (ps : List Str) (G : SpF) : Prop where
  len : ∀ F ds d, G F ds d → ds.length + 1 = ps.length
  run : ∀ (A : Around) (outer : List PySem.Env) (s : Shared) (H : Hp) (args : Args) (us : List Value) (ws : List V) (Q : VK) (f c : Addr) (q : Str) (F : D → D → Prop), CanCall P w K mg base kl f c q (frs outer) s H F → Room k A → Env0 P w K mg base A outer s H → BindsTo s fd args (ps.zip us) → Vals (ws ++ [.ref f]) us →
    (∃ (Hs : Hp) (ds : List D) (d : D), Same Hs H ∧ Hs c = some (CodeO c q) ∧ DqAll K Hs ws ds ∧ G F ds d ∧ ∀ v Hs' H', Grow Hs H Hs' H' → Dq K Hs' v d → Q v H') →
    codeAny (model P w) A (.call (.ref g) args) (CR CX0 outer P w H s Q fun _ _ _ => False) s
structure DefF (P : Program) (w : World) (K : Fg) (mg : Str → Option Value) (base : Heap) (k kl : Nat) (x : Str) (ps : List Str) (G : SpF) : Prop where
  ex : ∃ g fd, FnOkF P w K mg base k kl g fd ps G ∧ mg x = some (.ref g) ∧ PySem.W.keepIn K (.ref g) = true ∧ Binds K fd ps []
theorem paired_f {K : Fg} {Hs : Hp} {f : Addr} : ∀ {ws : List V} {ds : List D}, DqAll K Hs ws ds → Paired (SlV K Hs) (ws ++ [.ref f]) (ds.map Sl.d ++ [.v (.ref f)])
  | _, _, .nil => .cons slv_v .nil
  | _, _, .cons p q => .cons (slv_d p) (paired_f q)
theorem def_okF {P : Program} {w : World} {K : Fg} {mg : Str → Option Value} {base : Heap} {x : Str} {st : Stmt} {N ps : List Str} {k kl : Nat} {G : SpF} (h : Dfn K mg x st ps) (S : FnScope N ps (defScope st)) (len : ∀ F ds d, G F ds d → ds.length + 1 = ps.length)
    (body : ∀ (g : Addr) (cdv : Value) (A : Around) (outer : List PySem.Env) (s : Shared) (H : Hp) (f c : Addr) (q : Str) (F : D → D → Prop) (ds : List D) (d : D), CanCall P w K mg base kl f c q (frs outer) s H F → Room k (A.deeper (PyProof.Rows.envOfC x (defScope st) s.heap.objs.size g cdv)) → G F ds d →
      DSsg c q (bCx P w K mg base N x st g cdv A outer s H fun _ _ _ => False) (defBody st) (entryS N (ds.map Sl.d ++ [.v (.ref f)])) m0 { nx := fun _ _ => d = .none, rt := fun s _ => s = .d d }) : DefF P w K mg base (k + 1) kl x ps G := by
  obtain ⟨g, fd, Fu, hm, hb⟩ := h.ex
  obtain ⟨oc, od, kV, doc, pm, an, cdv, ct, osl, rfl, lk, hcd⟩ := Fu.ex
  refine ⟨g, _, ⟨len, fun A outer s H args us ws Q f c q F C hr e0 hbt hv hsp => ?_⟩, hm, Fu.kp, hb⟩
  obtain ⟨Hs, ds, d, i, hc, p, hG, kk⟩ := hsp
  refine run_ofS (N := N) (ps := ps) (us := us) (vs := ws ++ [.ref f]) lk hcd S hr e0 hbt hv (by rw [List.length_append, p.len]; exact len F ds d hG) fun hr' => ?_
  refine ⟨_, (pss_w (X := bCx P w K mg base N x st g cdv A outer s H fun _ _ _ => False)).nox, (body g cdv A outer s H f c q F ds d C hr' hG).run Hs H _ _ hc (.none i) (slots_env (paired_f p)) ⟨fun Hs' H' M' σ' ρ' r f q' k => ?_, fun Hs' H' M' v z r f q' k => ?_, fun _ _ _ _ _ _ _ _ k => k.elim, fun _ _ _ _ _ _ _ _ k => k.elim⟩⟩
  · exact kk _ Hs' H' (Fr.grow0 r f) (by rw [show d = .none from k]; exact .non)
  · cases (show z = .d d from k)
    exact kk _ Hs' H' (Fr.grow0 r f) q'.dp
section
variable {P : Program} {w : World} {K : Fg} {mg : Str → Option Value} {base : Heap} {N : List Str} {x0 : Str} {st0 : Stmt} {g0 : Addr} {cdv0 : Value} {A : Around} {outer : List PySem.Env} {s : Shared} {H : Hp} {E : XK} {kl : Nat} {f c : Addr} {q : Str} {F : D → D → Prop}
  {ρ : Env} {M : Mem} {e e1 e2 : Expr} {a : Str} {pos p : Pos} {x d : D}
/-- bent_by(e) -/
theorem pdg_lam (i : Nat) (C : CanCall P w K mg base kl f c q (frs outer) s H F) (hr : Room kl (bCx P w K mg base N x0 st0 g0 cdv0 A outer s H E).A) (he : PD (bCx P w K mg base N x0 st0 g0 cdv0 A outer s H E) e ρ M x) (hF : F x d) (hi : ρ[i]? = some (.v (.ref f)) := by rfl) (hN : N[i]? = some a := by rfl)
    (hv : Vis (defScope st0) a := by first | exact Or.inl rfl | exact Or.inr (Or.inl rfl) | exact Or.inr (Or.inr rfl)) (hd : (a == ("__debug__" : Str)) = false := by decide) (hcd : (a == ("__classdict__" : Str)) = false := by decide)
    (hs : starEach [e] (bCx P w K mg base N x0 st0 g0 cdv0 A outer s H E).env = (false, eval e (bCx P w K mg base N x0 st0 g0 cdv0 A outer s H E).env) :: starEach [] (bCx P w K mg base N x0 st0 g0 cdv0 A outer s H E).env := by rfl)
    (hpl : (backTo pos (starEach [] (bCx P w K mg base N x0 st0 g0 cdv0 A outer s H E).env)).any (·.1) = false := by rfl) :
    PDg c q (bCx P w K mg base N x0 st0 g0 cdv0 A outer s H E) (.Call (.Name a p) [e] [] pos) ρ M d := by
  refine ⟨fun Hs H1 σ Q hc r env k pins sZ IZ => ?_⟩
  refine wpAny_Call_Name_kw (thn ((pvv (v := .ref f) i hi hN hv hd hcd).run Hs H1 σ (fun v H2 => ∃ Hs2, Grow Hs H1 Hs2 H2 ∧ v = .ref f) r env (fun Hs2 H2 g => ⟨Hs2, g, rfl⟩) pins sZ IZ) fun u s1 ⟨v, H2, I1, r1, Hs2, g, ev⟩ => ?_)
  subst ev
  obtain rfl : u = Value.ref f := r1
  have un1 : Un (frs outer) [] H H2 s.heap s1.heap := I1.base
  refine PySem.W.callWith_F (FnAt_un un1 C.fn C.no C.nf) (thn ((pds_cons he pds_nil hs).run Hs2 H2 σ (fun vs H3 => ∃ Hs3, Grow Hs2 H2 Hs3 H3 ∧ DqAll K Hs3 vs [x]) (r.grow g) (env.mono g.s) (fun vs Hs3 H3 g3 p3 => ⟨Hs3, g3, p3⟩) pos pins s1 I1) fun us s2 ⟨vs, H3, I2, rv, Hs3, g3, p3⟩ => ?_) hs hpl
  have un2 : Un (frs outer) [] H H3 s.heap s2.heap := I2.base
  refine ⟨FnAt_un un2 C.fn C.no C.nf, ?_⟩
  cases p3 with
  | cons p3 p4 =>
  cases p4
  cases rv with
  | cons rv1 rv2 =>
  cases rv2
  refine wpAny_call (codeAny_mono (C.run _ _ s2 H3 _ _ Q hr I2.env0 un2 rv1 (g3.i _ _ (g3.s _ _ (g.s _ _ hc))) ⟨Hs3, [x], d, g3.i, .cons p3 .nil, ⟨x, rfl, hF⟩, fun v Hs4 H4 g4 p4 => k v Hs4 H4 ((g.trans g3).trans g4) p4⟩) fun r s' hq => ?_)
  cases r with
  | error e => exact (show False from hq).elim
  | ok fl =>
    cases fl with
    | ret u => exact I2.after hq
    | next => exact False.elim hq
    | brk => exact False.elim hq
    | cont => exact False.elim hq
/-- g(e1, e2, bent_by) -/
theorem pdg_rec {k : Nat} {x : Str} {ps : List Str} {G : SpF} {d1 d2 : D} {pn : Pos} (i : Nat) (C : CanCall P w K mg base kl f c q (frs outer) s H F) (h : DefF P w K mg base k kl x ps G) (hr : Room k (bCx P w K mg base N x0 st0 g0 cdv0 A outer s H E).A) (hg : Gl (bCx P w K mg base N x0 st0 g0 cdv0 A outer s H E) x)
    (h1 : PD (bCx P w K mg base N x0 st0 g0 cdv0 A outer s H E) e1 ρ M d1) (h2 : PD (bCx P w K mg base N x0 st0 g0 cdv0 A outer s H E) e2 ρ M d2) (hG : G F [d1, d2] d) (hi : ρ[i]? = some (.v (.ref f)) := by rfl) (hN : N[i]? = some a := by rfl)
    (hv : Vis (defScope st0) a := by first | exact Or.inl rfl | exact Or.inr (Or.inl rfl) | exact Or.inr (Or.inr rfl)) (hd : (a == ("__debug__" : Str)) = false := by decide) (hcd : (a == ("__classdict__" : Str)) = false := by decide) (hdb : (x == ("__debug__" : Str)) = false := by decide)
    (he : starEach [e1, e2, .Name a pn] (bCx P w K mg base N x0 st0 g0 cdv0 A outer s H E).env = (false, eval e1 (bCx P w K mg base N x0 st0 g0 cdv0 A outer s H E).env) :: starEach [e2, .Name a pn] (bCx P w K mg base N x0 st0 g0 cdv0 A outer s H E).env := by rfl)
    (he2 : starEach [e2, .Name a pn] (bCx P w K mg base N x0 st0 g0 cdv0 A outer s H E).env = (false, eval e2 (bCx P w K mg base N x0 st0 g0 cdv0 A outer s H E).env) :: starEach [.Name a pn] (bCx P w K mg base N x0 st0 g0 cdv0 A outer s H E).env := by rfl)
    (he3 : starEach [.Name a pn] (bCx P w K mg base N x0 st0 g0 cdv0 A outer s H E).env = (false, eval (.Name a pn) (bCx P w K mg base N x0 st0 g0 cdv0 A outer s H E).env) :: starEach [] (bCx P w K mg base N x0 st0 g0 cdv0 A outer s H E).env := by rfl)
    (hpl : (backTo pos (starEach [e2, .Name a pn] (bCx P w K mg base N x0 st0 g0 cdv0 A outer s H E).env)).any (·.1) = false := by rfl) :
    PDg c q (bCx P w K mg base N x0 st0 g0 cdv0 A outer s H E) (.Call (.Name x p) [e1, e2, .Name a pn] [] pos) ρ M d := by
  obtain ⟨g, fd, F1, hm, hk, hb⟩ := h.ex
  refine ⟨fun Hs H1 σ Q hc r env k pins sZ IZ => ?_⟩
  refine wpAny_Call_Name_kw (ld_glob IZ hg hm ?_ hdb)
  refine PySem.W.callWith_K (h₀ := base) IZ.ok.mod.kin hk (thn ((pa_cons (e := e1) pe_w (pa_cons (e := e2) pe_w (pa_cons (pe_var hN hv hd hcd) pa_nil he3) he2) he).run pos pins sZ σ H1 (fun vs H2 => ∃ v1 v2 Hs2, vs = [v1, v2, .ref f] ∧ Grow Hs H1 Hs2 H2 ∧ DqAll K Hs2 [v1, v2] [d1, d2]) IZ ?_) fun us s1 ⟨vs, H2, I1, rv, v1, v2, Hs2, ev, g2, p2⟩ => ⟨I1.kIn, ?_⟩) he hpl
  · exact h1.run Hs H1 σ _ r env fun v1 Hs2 H2 g2 p1 => h2.run Hs2 H2 σ _ (r.grow g2) (env.mono g2.s) fun v2 Hs3 H3 g3 p2 => ⟨.ref f, env.getV hi, v1, v2, Hs3, rfl, g2.trans g3, .cons (dp_mono g3.s p1) (.cons p2 .nil)⟩
  · subst ev
    have un1 : Un (frs outer) [] H H2 s.heap s1.heap := I1.base
    have hlen : us.length = ps.length := by rw [← rv.length]; exact F1.len F [d1, d2] d hG
    have hb' := hb s1 us I1.kIn (by rw [List.append_nil]; exact hlen)
    rw [List.append_nil] at hb'
    have C' : CanCall P w K mg base kl f c q (frs (bCx P w K mg base N x0 st0 g0 cdv0 A outer s H E).stack) s1 H2 F := C.later un1 (fun y hy => by
        show y ∈ List.filterMap (·.frame) (_ :: outer)
        exact List.mem_filterMap.mpr (let ⟨z, h1, h2⟩ := List.mem_filterMap.mp hy; ⟨z, List.mem_cons_of_mem _ h1, h2⟩)) (fun y hy hn => by
        obtain ⟨z, h1, h2⟩ := List.mem_filterMap.mp (show y ∈ List.filterMap (·.frame) (_ :: outer) from hy)
        rcases List.mem_cons.mp h1 with rfl | h1
        · have : y = s.heap.objs.size := (Option.some.inj h2).symm
          rw [this]
          cases q : s.heap.get? s.heap.objs.size with
          | none => rfl
          | some o => exact absurd (Heap.lt_size q) (Nat.lt_irrefl _)
        · exact absurd (List.mem_filterMap.mpr ⟨z, h1, h2⟩) hn)
    refine wpAny_call (codeAny_mono (F1.run _ _ s1 H2 ⟨us, []⟩ us [v1, v2] Q f c q F C' hr I1.env0 hb' rv ⟨Hs2, [d1, d2], d, g2.i, g2.s _ _ hc, p2, hG, fun v Hs3 H3 g3 p3 => k v Hs3 H3 (g2.trans g3) p3⟩) fun r s' hq => ?_)
    cases r with
    | error e => exact (show False from hq).elim
    | ok fl =>
      cases fl with
      | ret u => exact I1.after hq
      | next => exact False.elim hq
      | brk => exact False.elim hq
      | cont => exact False.elim hq
end
/-! #### the maker -/
section
variable {X : Cx} {pins : List (Addr × Obj)} {σ : L2.St} {H Hs : Hp} {s : Shared}
theorem lam_made2 {c P : Addr} {ps : Array Value} {params : Arguments} {body : Expr} {scope : Scope} {pos : Pos} {E : Value → Shared → Prop} {Q : Value → Shared → Prop} (I : Inv X pins σ H s) (TB : TabB X.base X.mg c P) (hcode : X.env.code = .ref c)
    (hP : H P = some (.tbl ps)) (ht : TriplesOk ps.toList) (hi : Same Hs H) (ha : ∀ (pos : Pos) (cv : Value), codeAmong pos ps.toList = some cv → ∃ c, cv = .ref c ∧ Hs c = some (CodeO c (X.env.qual ++ "<lambda>")))
    (hdef : defaultsOf params X.env = ([], [])) (hfree : ∀ y ∈ scope.names, y.2 = .free → ∃ c, X.env.cells.lookup y.1 = some c)
    (h : ∀ (f c' : Addr) (pm ctv : Value) (H1 : Hp) (s' : Shared), Inv X pins σ H1 s' → LamH P (X.env.qual ++ "<lambda>") ps H c' H1 → (H1 = H → Hs c' = some (CodeO c' (X.env.qual ++ "<lambda>"))) →
      s'.heap.get? f = some (PySem.W.kla_obj "<lambda>" (X.env.qual ++ "<lambda>") params body scope (cloFrom X.env.cells scope.names []) pm c' ctv) → H1 f = none → f ∉ frs X.stack → H1 c' = some (CodeO c' (X.env.qual ++ "<lambda>")) → Q (.ref f) s') :
    wpAny (model X.prog X.w) X.A (eval (.Lambda params body scope pos) X.env) Q E s := by
  refine PySem.W.kla_eval hdef ?_
  have bP : s.heap.BuiltinsAt X.mg P := TB.bm.keeps I.bk
  have hP' : s.heap.get? P = some { cls := .none, data := .fields ps } := I.hok P _ hP
  have outside : ∀ f, s.heap.objs.size ≤ f → f ∉ frs X.stack := fun f hf z => by
    rcases List.mem_cons.mp (I.stkSub _ z) with e | e
    · have h1 := I.lt
      rw [← e] at h1
      exact Nat.lt_irrefl _ (Nat.lt_of_lt_of_le h1 hf)
    · exact I.nofs hf e
  cases hc : codeAmong pos ps.toList with
  | some cv =>
    obtain ⟨c', e, hco⟩ := ha pos cv hc
    subst e
    refine PySem.W.kla_makeFunctionHit (mg := X.mg) (c := c) (P := P) (ps := ps) (closure_ok hfree) I.ok.glob (I.mod.glob.keeps I.bk) hcode (TB.code.keeps I.bk) hP' ht hc bP fun ctv h' tk hx hsz => ?_
    have I1 : Inv X pins σ H { s with heap := h'.push (PySem.W.kla_obj "<lambda>" (X.env.qual ++ "<lambda>") params body scope (cloFrom X.env.cells scope.names []) ((X.mg "__name__").getD .none) c' ctv), toks := tk } := I.kept fun b o e => Heap.get?_push_of_some _ (hx b o e)
    exact h h'.objs.size c' _ ctv H _ I1 (.inl rfl) (fun _ => hco) (Heap.get?_push_size _ rfl) (I.hok.fresh hsz) (outside _ hsz) (hi _ _ hco)
  | none =>
    refine PySem.W.kla_makeFunction (mg := X.mg) (c := c) (P := P) (ps := ps) (closure_ok hfree) I.ok.glob (I.mod.glob.keeps I.bk) hcode (TB.code.keeps I.bk) hP' ht hc TB.gP bP fun c' ctv h' tk hx hge hlt hrec htb => ?_
    obtain ⟨c2, oc, vs, t, e2, hoc, hd, hv⟩ := hrec
    cases e2
    have hsz : s.heap.objs.size ≤ h'.objs.size := Nat.le_trans hge (Nat.le_of_lt hlt)
    have nC : H c' = none := I.hok.fresh hge
    have I1 := inv_table (t' := tk) (more := #[rawInt pos.line, rawInt pos.col, .ref c']) (h' := h'.push (PySem.W.kla_obj "<lambda>" (X.env.qual ++ "<lambda>") params body scope (cloFrom X.env.cells scope.names []) ((X.mg "__name__").getD .none) c' ctv)) I hP
      (fun b o hb e => Heap.get?_push_of_some _ (hx b o hb e)) (Heap.get?_push_of_some _ htb) hge ⟨oc, vs, t, Heap.get?_push_of_some _ hoc, hd, hv⟩
    have eL : (ps ++ #[rawInt pos.line, rawInt pos.col, .ref c']).toList = ps.toList ++ [rawInt pos.line, rawInt pos.col, .ref c'] := by simp
    refine h h'.objs.size c' _ ctv _ _ I1 (.inr ⟨nC, _, by rw [eL]; exact PySem.TriplesOk_snoc _ _ _ _ ht, fun p' cv hcv => ?_, rfl⟩) (fun z => ?_) (Heap.get?_push_size _ rfl) ?_ (outside _ hsz) upd_same
    · rw [eL] at hcv
      exact among_app _ ht hcv
    · have := congrFun z c'
      rw [upd_same, nC] at this; cases this
    · have n1 : h'.objs.size ≠ c' := Nat.ne_of_gt hlt
      have n2 : h'.objs.size ≠ P := Nat.ne_of_gt (Nat.lt_of_lt_of_le (Heap.lt_size hP') hsz)
      rw [upd_ne n1, upd_ne n2]
      exact I.hok.fresh hsz
end
/-- what stands for the heaps behind the making has the code object's mark -/
theorem lamH_rel2 {K : Fg} {Hs H H1 : Hp} {M : Mem} {P c : Addr} {q : Str} {ps : Array Value} (r : RelM K Hs H M) (hM : M P = some (.tab q)) (hP : H P = some (.tbl ps)) (h : LamH P q ps H c H1) (hh : H1 = H → Hs c = some (CodeO c q)) :
    ∃ Hs1, RelM K Hs1 H1 M ∧ Fr Hs H M Hs1 H1 M ∧ Hs1 c = some (CodeO c q) := by
  rcases h with rfl | ⟨hc, more, tr, cod, rfl⟩
  · exact ⟨Hs, r, .refl, hh rfl⟩
  · have pc : P ≠ c := fun z => by rw [z, hc] at hP; cases hP
    obtain ⟨nP, o, e1, e2⟩ := r.m P _ hM
    rw [hP] at e1
    cases e1
    have hsc : Hs c = none := r.i.free hc
    refine ⟨upd Hs c (CodeO c q), ⟨fun b o e => ?_, fun a mo e => ?_⟩, ⟨same_upd hsc, fun a o e m => ?_, fun a h1 h2 => ?_, fun a h1 h2 => absurd h1 h2, fun a h1 => ?_⟩, upd_same⟩
    · by_cases hb : b = c
      · subst hb; rw [upd_same] at e ⊢; exact e
      · rw [upd_ne hb] at e ⊢
        rw [upd_ne (fun z => by rw [z, nP] at e; cases e)]
        exact r.i b o e
    · by_cases ha : a = P
      · subst ha
        rw [hM] at e
        cases e
        refine ⟨by rw [upd_ne pc]; exact nP, .tbl (ps ++ more), by rw [upd_ne pc, upd_same], tr, fun pos cv hcv => ?_⟩
        rcases cod pos cv hcv with z | z
        · obtain ⟨c', y1, y2⟩ := e2.2 pos cv z
          exact ⟨c', y1, (same_upd hsc) _ _ y2⟩
        · exact ⟨c, z, upd_same⟩
      · obtain ⟨n1, o, y1, y2⟩ := r.m a mo e
        have ac : a ≠ c := fun z => by rw [z, hc] at y1; cases y1
        exact ⟨by rw [upd_ne ac]; exact n1, o, by rw [upd_ne ac, upd_ne ha]; exact y1, y2.mono (same_upd hsc)⟩
    · have ac : a ≠ c := fun z => by rw [z, hc] at e; cases e
      have aP : a ≠ P := fun z => by rw [z, hM] at m; cases m
      rw [upd_ne ac, upd_ne aP]; exact e
    · by_cases hb : a = c
      · subst hb; exact .inl hc
      · rw [upd_ne hb] at h2; exact absurd h1 h2
    · by_cases hb : a = c
      · subst hb; rw [upd_same]; intro z; cases z
      · rw [upd_ne hb]
        by_cases hp : a = P
        · subst hp; rw [upd_same]; intro z; cases z
        · rw [upd_ne hp]; exact h1
section
variable {X : Cx} {ρ : Env} {M : Mem} {Φ : Sl → Mem → Prop} {e1 e2 : Expr}
/-- g(e1, e2, lambda a: body), which captures b -/
theorem px_hand {c P : Addr} {k kl j : Nat} {x a b : Str} {gs : List Str} {G : SpF} {F : D → D → Prop} {n : Int} {d1 d2 d : D} {params : Arguments} {body : Expr} {scope : Scope} {p lpos pos : Pos} (h : DefF X.prog X.w X.K X.mg X.base k (kl + 1) x gs G) (hr : Room k X.A) (hg : Gl X x)
    (TB : TabB X.base X.mg c P) (hcode : X.env.code = .ref c) (hM : M P = some (.tab (X.env.qual ++ "<lambda>"))) (L : LamS1 X.env.scope scope a b) (h1 : PD X e1 ρ M d1) (h2 : PD X e2 ρ M d2)
    (hbody : ∀ (A : Around) (outer : List PySem.Env) (s : Shared) (H : Hp) (f c' : Addr) (x d : D), Room kl (A.deeper (lamEnv X scope s.heap.objs.size f c')) → F x d → PD (lam1Cx X A outer s H scope f c' a b) body [.d x, .d (.int n)] m0 d)
    (hG : G F [d1, d2] d) (hΦ : Φ (.d d) M) (hj : X.N[j]? = some b := by rfl) (hn : ρ[j]? = some (.d (.int n)) := by rfl)
    (hdef : defaultsOf params X.env = ([], []) := by rfl) (hbind : ∀ (q : Str) (cl : List (Str × Addr)) (pm cv ctv : Value) (u : Value), bindArgs (PySem.W.kla_fn "<lambda>" q params body scope cl pm cv ctv) ⟨[u], []⟩ = pure [(a, u)] := by intros; rfl)
    (hdb : (x == ("__debug__" : Str)) = false := by decide)
    (he : starEach [e1, e2, .Lambda params body scope lpos] X.env = (false, eval e1 X.env) :: (false, eval e2 X.env) :: (false, eval (.Lambda params body scope lpos) X.env) :: starEach [] X.env := by rfl)
    (he1 : starEach [e1, e2, .Lambda params body scope lpos] X.env = (false, eval e1 X.env) :: starEach [e2, .Lambda params body scope lpos] X.env := by rfl)
    (hpl : (backTo pos (starEach [e2, .Lambda params body scope lpos] X.env)).any (·.1) = false := by rfl) :
    PX X (.Call (.Name x p) [e1, e2, .Lambda params body scope lpos] [] pos) ρ M Φ := by
  obtain ⟨g, fd, F1, hm, hk, hb⟩ := h.ex
  refine ⟨fun Hs H σ Q r env kk pins s I => ?_⟩
  refine wpAny_Call_Name_kw (ld_glob I hg hm ?_ hdb)
  refine PySem.W.callWith_K (h₀ := X.base) I.ok.mod.kin hk ?_ he1 hpl
  rw [he]
  show wpAny _ _ (spliced ((false, eval e1 X.env) :: (false, eval e2 X.env) :: (false, eval (.Lambda params body scope lpos) X.env) :: backTo pos (starEach [] X.env))) _ _ s
  refine Calls.spliced_cons (thn (h1.run Hs H σ (fun v H1 => ∃ Hs1, Grow Hs H Hs1 H1 ∧ Dq X.K Hs1 v d1) r env (fun v Hs1 H1 g1 p1 => ⟨Hs1, g1, p1⟩) pins s I) fun u1 s1 ⟨v1, H1, I1, r1, Hs1, g1, p1⟩ => ?_)
  refine Calls.spliced_cons (thn (h2.run Hs1 H1 σ (fun v H2 => ∃ Hs2, Grow Hs1 H1 Hs2 H2 ∧ Dq X.K Hs2 v d2) (r.grow g1) (env.mono g1.s) (fun v Hs2 H2 g2 p2 => ⟨Hs2, g2, p2⟩) pins s1 I1) fun u2 s2 ⟨v2, H2, I2, r2, Hs2, g2, p2⟩ => ?_)
  have rr : RelM X.K Hs2 H2 M := (r.grow g1).grow g2
  obtain ⟨nP, o, eP, eR⟩ := rr.m P _ hM
  obtain ⟨ps, rfl⟩ : ∃ ps, o = .tbl ps := by cases o <;> first | exact ⟨_, rfl⟩ | exact eR.elim
  refine Calls.spliced_cons (lam_made2 I2 TB hcode eP eR.1 rr.i eR.2 hdef (L.has I2.ok) fun f c' pm' ctv H3 s3 I3 eH hh hf hfn hfr hco => ?_)
  obtain ⟨Hs3, r3, f3, hc3⟩ := lamH_rel2 rr hM eP eH hh
  refine Calls.spliced_nil ⟨I3.kIn, ?_⟩
  obtain ⟨vn, hσ, hvn⟩ := env.get hn
  have hvn := dp_int hvn
  subst hvn
  have C := can_lam (F := F) (k := kl) (j := j) (n := n) I3 L hf hfn hfr (hbind _ _ _ _ _) hj hσ (fun A outer s H x d hr hF => hbody A outer s H f c' x d hr hF)
  have hlen : ([u1, u2, Value.ref f] : List Value).length = gs.length := F1.len F [d1, d2] d hG
  have hb' := hb s3 [u1, u2, .ref f] I3.kIn (by rw [List.append_nil]; exact hlen)
  rw [List.append_nil] at hb'
  refine wpAny_call (codeAny_mono (F1.run X.A X.stack s3 H3 ⟨[u1, u2, .ref f], []⟩ [u1, u2, .ref f] [v1, v2] Q f c' _ F C hr I3.env0 hb' (.cons r1 (.cons r2 (.cons rfl .nil))) ⟨Hs3, [d1, d2], d, r3.i, hc3, .cons (dp_mono (g2.s.trans f3.s) p1) (.cons (dp_mono f3.s p2) .nil), hG, fun v Hs4 H4 g4 p4 => kk v (.d d) Hs4 H4 M (r3.grow g4) (((g1.fr.trans g2.fr).trans f3).trans g4.fr) (slv_d p4) hΦ⟩) fun r s' hq => ?_)
  cases r with
  | error e => exact (show False from hq).elim
  | ok fl =>
    cases fl with
    | ret u => exact I3.after hq
    | next => exact False.elim hq
    | brk => exact False.elim hq
    | cont => exact False.elim hq
end
end AB
namespace AB
open PySem L2
/-! ### things spoilt at any place (k09) -/
def numT (i : Int) : Str := Str.ofString (toString i)
/-- what the law spoils: texts, worths, tuples of them -/
def okB : Nat → D → Prop
  | _, .int i => InW i
  | _, .str s => PyData.strOk s = true ∧ s.length ≤ 100
  | n, .tuple ds => match n with | 0 => False | n + 1 => ds.length ≤ 100 ∧ ∀ d ∈ ds, okB n d
  | _, .none => False
  | _, .bool _ => False
  | _, .list _ => False
  | _, .dict _ => False
theorem okB_tup {n : Nat} {ds : List D} (hl : ds.length ≤ 100) (h : ∀ d ∈ ds, okB n d) : okB (n + 1) (.tuple ds) := by simp only [okB]; exact ⟨hl, h⟩
theorem okB_tup' {n : Nat} {ds : List D} (h : okB n (.tuple ds)) : ds.length ≤ 100 ∧ ∃ m, n = m + 1 ∧ ∀ d ∈ ds, okB m d := by
  cases n with
  | zero => simp [okB] at h
  | succ n => simp only [okB] at h; exact ⟨h.1, n, rfl, h.2⟩
theorem okB_str {n : Nat} {s : Str} (h1 : PyData.strOk s = true) (h2 : s.length ≤ 100) : okB n (.str s) := by cases n <;> exact ⟨h1, h2⟩
theorem okB_int {n : Nat} {i : Int} (h : InW i) : okB n (.int i) := by cases n <;> exact h
theorem okB_kinds {n : Nat} {d : D} (h : okB n d) : (∃ i, d = .int i ∧ InW i) ∨ (∃ s, d = .str s ∧ PyData.strOk s = true ∧ s.length ≤ 100) ∨ ∃ xs m, d = .tuple xs ∧ n = m + 1 ∧ xs.length ≤ 100 ∧ ∀ x ∈ xs, okB m x := by
  cases d with
  | int i => exact .inl ⟨i, rfl, by cases n <;> exact h⟩
  | str s => exact .inr (.inl ⟨s, rfl, by cases n <;> exact h⟩)
  | tuple xs =>
    obtain ⟨h1, m, h2, h3⟩ := okB_tup' h
    exact .inr (.inr ⟨xs, m, rfl, h2, h1, h3⟩)
  | none => cases n <;> exact h.elim
  | bool _ => cases n <;> exact h.elim
  | list _ => cases n <;> exact h.elim
  | dict _ => cases n <;> exact h.elim
theorem okB_ok : ∀ {n : Nat} {d : D}, okB n d → okD n d := by
  intro n
  induction n with
  | zero =>
    intro d h
    rcases okB_kinds h with ⟨i, rfl, _⟩ | ⟨s, rfl, h1, h2⟩ | ⟨xs, m, rfl, e, _⟩
    · exact okD_int
    · exact okD_str' h1 (by omega)
    · cases e
  | succ n ih =>
    intro d h
    rcases okB_kinds h with ⟨i, rfl, _⟩ | ⟨s, rfl, h1, h2⟩ | ⟨xs, m, rfl, e, h1, h2⟩
    · exact okD_int
    · exact okD_str' h1 (by omega)
    · cases e
      exact okD_tup (by omega) fun x hx => ih (h2 x hx)
/-! #### ways -/
def dWay (w : List Nat) : D := .tuple (w.map fun (i : Nat) => .int (i : Int))
theorem ok_way {w : List Nat} (h : w.length ≤ 1000) : okD 1 (dWay w) := okD_tup (by rw [List.length_map]; exact h) fun d hd => by
  obtain ⟨i, _, rfl⟩ := List.mem_map.mp hd
  exact okD_int
def places : Nat → D → List Nat → List (List Nat)
  | 0, _, way => [way]
  | k + 1, .tuple xs, way => way :: ((List.range xs.length).map fun i => places k (xs.getD i .none) (way ++ [i])).flatten
  | _ + 1, _, way => [way]
def FPlaces (n : Nat) : List D → D → Prop := fun ds d => ∃ (one : D) (way : List Nat), ds = [one, dWay way] ∧ okB n one ∧ n ≤ 3 ∧ way.length + n ≤ 10 ∧ d = .list ((places n one way).map dWay)
theorem getD_memD {xs : List D} {i : Nat} (h : i < xs.length) : xs.getD i .none ∈ xs := by
  rw [List.getD_eq_getElem?_getD, List.getElem?_eq_getElem h]; exact List.getElem_mem h
theorem flat_len {α : Type} (f : Nat → List α) (b : Nat) : ∀ n, (∀ i, i < n → (f i).length ≤ b) → ((List.range n).map f).flatten.length ≤ n * b
  | 0, _ => by simp
  | n + 1, h => by
    rw [List.range_succ, List.map_append, List.flatten_append, List.length_append]
    have h1 := flat_len f b n fun i hi => h i (by omega)
    have h2 := h n (by omega)
    simp only [List.map_cons, List.map_nil, List.flatten_cons, List.flatten_nil, List.append_nil]
    rw [Nat.succ_mul]; omega
theorem places_len : ∀ {n : Nat} {d : D} {way : List Nat}, okB n d → (places n d way).length ≤ 101 ^ n := by
  intro n
  induction n with
  | zero => intro d way _; simp [places]
  | succ n ih =>
    intro d way h
    have h1 : 1 ≤ 101 ^ n := Nat.one_le_pow _ _ (by decide)
    rw [Nat.pow_succ]
    rcases okB_kinds h with ⟨i, rfl, _⟩ | ⟨s, rfl, _⟩ | ⟨xs, m, rfl, e, hl, hx⟩
    · simp only [places, List.length_cons, List.length_nil]; omega
    · simp only [places, List.length_cons, List.length_nil]; omega
    · cases e
      simp only [places, List.length_cons]
      have := flat_len (fun i => places n (xs.getD i .none) (way ++ [i])) (101 ^ n) xs.length fun i hi => ih (hx _ (getD_memD hi))
      have h2 : xs.length * 101 ^ n ≤ 100 * 101 ^ n := Nat.mul_le_mul_right _ hl
      omega
theorem places_pos (n : Nat) (d : D) (way : List Nat) : 0 < (places n d way).length := by
  cases n with
  | zero => simp [places]
  | succ n => cases d <;> simp [places]
/-- a way that leads somewhere -/
def leads : List Nat → D → Prop
  | [], _ => True
  | i :: w, .tuple xs => i < xs.length ∧ leads w (xs.getD i .none)
  | _ :: _, _ => False
theorem places_lead : ∀ {n : Nat} {d : D} {way : List Nat}, ∀ w ∈ places n d way, ∃ t, w = way ++ t ∧ t.length ≤ n ∧ leads t d := by
  intro n
  induction n with
  | zero => intro d way w hw; simp only [places, List.mem_singleton] at hw; exact ⟨[], by simp [hw], by simp, trivial⟩
  | succ n ih =>
    intro d way w hw
    have triv : w = way → ∃ t, w = way ++ t ∧ t.length ≤ n + 1 ∧ leads t d := fun e => ⟨[], by simp [e], by simp, trivial⟩
    cases d with
    | tuple xs =>
      simp only [places, List.mem_cons] at hw
      rcases hw with hw | hw
      · exact triv hw
      · obtain ⟨l, hl, hw⟩ := List.mem_flatten.mp hw
        obtain ⟨i, hi, rfl⟩ := List.mem_map.mp hl
        rw [List.mem_range] at hi
        obtain ⟨t, rfl, ht, hle⟩ := ih w hw
        exact ⟨i :: t, by simp, by simp only [List.length_cons]; omega, hi, hle⟩
    | none => exact triv (by simpa [places] using hw)
    | bool _ => exact triv (by simpa [places] using hw)
    | int _ => exact triv (by simpa [places] using hw)
    | str _ => exact triv (by simpa [places] using hw)
    | list _ => exact triv (by simpa [places] using hw)
    | dict _ => exact triv (by simpa [places] using hw)
/-! #### a part put at a way's end -/
def PutAt (F : D → D → Prop) : List Nat → D → D → Prop
  | [], one, d => F one d
  | i :: w, .tuple xs, d => xs.length ≤ 1000 ∧ ∃ x y, xs[i]? = some x ∧ PutAt F w x y ∧ d = .tuple (xs.take i ++ [y] ++ xs.drop (i + 1))
  | _ :: _, _, _ => False
def GPut (n : Nat) : SpF := fun F ds d => ∃ (one : D) (way : List Nat), ds = [one, dWay way] ∧ way.length ≤ n ∧ n ≤ 100 ∧ PutAt F way one d
theorem put_ok {F : D → D → Prop} {m : Nat} (hF : ∀ k x, okB k x → ∃ y, F x y) (hok : ∀ k x y, okB k x → F x y → okD (k + 2) y) : ∀ (w : List Nat) {n : Nat} {one : D}, okB n one → leads w one → ∃ d, PutAt F w one d ∧ okD (n + 2) d
  | [], n, one, h, _ => by
    obtain ⟨y, hy⟩ := hF n one h
    exact ⟨y, hy, hok n one y h hy⟩
  | i :: w, n, one, h, hl => by
    cases one with
    | tuple xs =>
      obtain ⟨hi, hl⟩ := hl
      obtain ⟨hlen, m', rfl, hx⟩ := okB_tup' h
      obtain ⟨y, hy, oy⟩ := put_ok (m := m) hF hok w (hx _ (getD_memD hi)) hl
      refine ⟨_, ⟨by omega, _, y, ?_, hy, rfl⟩, ?_⟩
      · rw [List.getD_eq_getElem?_getD, List.getElem?_eq_getElem hi]; rfl
      · refine okD_tup ?_ fun d hd => ?_
        · rw [List.length_append, List.length_append, List.length_take, List.length_drop]; simp only [List.length_cons, List.length_nil]; omega
        · simp only [List.mem_append, List.mem_singleton] at hd
          rcases hd with (hd | rfl) | hd
          · exact okD_le (okB_ok (hx d (List.mem_of_mem_take hd))) (by omega)
          · exact oy
          · exact okD_le (okB_ok (hx d (List.mem_of_mem_drop hd))) (by omega)
    | none => exact hl.elim
    | bool _ => exact hl.elim
    | int _ => exact hl.elim
    | str _ => exact hl.elim
    | list _ => exact hl.elim
    | dict _ => exact hl.elim
/-! #### a part otherwise -/
def otherL : D → List D
  | .tuple xs => [.list xs, .list xs, .tuple (xs ++ xs.take 1), .tuple (xs.drop 1), .list [.tuple xs]]
  | .int i => [.bool true, .none, .str (numT i), .tuple [.int i], .int (-1 - i)]
  | d => [.none, .tuple [d], .list [d], .str "", .int 0]
def FOther : List D → D → Prop := fun ds d => ∃ (one : D) (n : Int) (k : Nat), ds = [one, .int n] ∧ okB k one ∧ atI (otherL one) (n % 5) = some d
theorem otherL_len (d : D) : (otherL d).length = 5 := by cases d <;> rfl
theorem numT_ok {i : Int} (h : InW i) : PyData.strOk (numT i) = true ∧ (numT i).length ≤ 1000 := by
  have hl := Array.length_toList (xs := (numT i).cps)
  obtain ⟨n, rfl⟩ : ∃ n : Nat, i = (n : Int) := ⟨i.toNat, by have := h.1; omega⟩
  have e : (numT (n : Int)).cps.toList = TL.numL n := TL.tl_num n
  have h3 := TL.numL_len (n := n) (k := 3) (by decide) (by have := h.2; omega)
  refine ⟨?_, ?_⟩
  · unfold PyData.strOk
    rw [Array.all_eq_true_iff_forall_mem]
    intro c hc
    have hc' : c ∈ TL.numL n := by rw [← e]; simpa using hc
    have := TL.numL_digits n c hc'
    simp; omega
  · show (numT (n : Int)).cps.size ≤ 1000
    rw [e] at hl
    omega
theorem numT_log {w : Int} (h : InW w) : w.natAbs.log2 < 1920 := by
  have h1 : w.natAbs < 2 ^ 10 := by have := h.1; have := h.2; omega
  by_cases h0 : w.natAbs = 0
  · rw [h0]; decide
  · have := (Nat.log2_lt h0).mpr h1
    omega
theorem other_ok {k : Nat} {x : D} (h : okB k x) : ∀ y ∈ otherL x, okD (k + 2) y := by
  have hx := okB_ok h
  intro y hy
  rcases okB_kinds h with ⟨i, rfl, hi⟩ | ⟨s, rfl, h1, h2⟩ | ⟨xs, m, rfl, e, h1, h2⟩
  · simp only [otherL, List.mem_cons, List.not_mem_nil, or_false] at hy
    rcases hy with rfl | rfl | rfl | rfl | rfl
    · exact okD_bool
    · exact okD_none
    · exact okD_str' (numT_ok hi).1 (numT_ok hi).2
    · exact okD_tup (by simp) fun d hd => by rw [List.mem_singleton.mp hd]; exact okD_int
    · exact okD_int
  · simp only [otherL, List.mem_cons, List.not_mem_nil, or_false] at hy
    have ks : ∀ n, okD n (.str s) := fun n => okD_str' h1 (by omega)
    rcases hy with rfl | rfl | rfl | rfl | rfl
    · exact okD_none
    · exact okD_tup (by simp) fun d hd => by rw [List.mem_singleton.mp hd]; exact ks _
    · exact okD_lst (by simp) fun d hd => by rw [List.mem_singleton.mp hd]; exact ks _
    · exact okD_str' (by decide +kernel) (by decide +kernel)
    · exact okD_int
  · subst e
    have kx : ∀ d ∈ xs, okD (m + 2) d := fun d hd => okD_le (okB_ok (h2 d hd)) (by omega)
    simp only [otherL, List.mem_cons, List.not_mem_nil, or_false] at hy
    rcases hy with rfl | rfl | rfl | rfl | rfl
    · exact okD_lst (by omega) kx
    · exact okD_lst (by omega) kx
    · exact okD_tup (by rw [List.length_append, List.length_take]; omega) fun d hd => (List.mem_append.mp hd).elim (kx d) fun z => kx d (List.mem_of_mem_take z)
    · exact okD_tup (by rw [List.length_drop]; omega) fun d hd => kx d (List.mem_of_mem_drop hd)
    · exact okD_lst (by simp) fun d hd => by rw [List.mem_singleton.mp hd]; exact okD_le hx (by omega)
theorem atI_some {α : Type} {l : List α} {i : Int} (h0 : 0 ≤ i) (h1 : i < (l.length : Int)) : ∃ x ∈ l, atI l i = some x := by
  have hl : i.toNat < l.length := by omega
  refine ⟨l[i.toNat], List.getElem_mem hl, ?_⟩
  unfold atI ixN
  rw [if_pos h0, if_pos h1]
  exact List.getElem?_eq_getElem hl
theorem atI_mem {α : Type} {l : List α} {i : Int} {x : α} (h0 : 0 ≤ i) (h1 : i < (l.length : Int)) (h : atI l i = some x) : x ∈ l := by
  obtain ⟨y, hy, e⟩ := atI_some h0 h1
  rw [e] at h
  cases h; exact hy
/-! #### what the law draws -/
theorem okB_key {n : Nat} {k : Str} (h : k ∈ abcdK) : okB n (.str k) := okB_str (keyOk_abcd k h).1 (keyOk_abcd k h).2
theorem okB_word {n : Nat} {s : Str} (h : (PyData.strOk s && decide (s.length ≤ 100)) = true) : okB n (.str s) := by
  rw [Bool.and_eq_true] at h
  exact okB_str h.1 (of_decide_eq_true h.2)
theorem okB_book {b : Book} (h : BookIn abcdK b) (hl : b.length ≤ 100) : okB 2 (dBook b) := okB_tup (by rw [List.length_map]; exact hl) fun d hd => by
  obtain ⟨p, hp, rfl⟩ := List.mem_map.mp hd
  have := h.mem hp
  exact okB_tup (by simp) fun d hd => by
    simp only [List.mem_cons, List.not_mem_nil, or_false] at hd
    rcases hd with rfl | rfl
    · exact okB_key this.1
    · exact okB_int this.2
theorem okB_chg {c : Chg} (h : ChgIn abcdK c) : okB 2 (dChg c) := by
  cases c with
  | put k w => exact okB_tup (by simp) fun d hd => by simp only [List.mem_cons, List.not_mem_nil, or_false] at hd; rcases hd with rfl | rfl | rfl <;> first | exact okB_key h.1 | exact okB_int h.2 | exact okB_word (by decide +kernel)
  | add k w => exact okB_tup (by simp) fun d hd => by simp only [List.mem_cons, List.not_mem_nil, or_false] at hd; rcases hd with rfl | rfl | rfl <;> first | exact okB_key h.1 | exact okB_int h.2 | exact okB_word (by decide +kernel)
  | keep k w => exact okB_tup (by simp) fun d hd => by simp only [List.mem_cons, List.not_mem_nil, or_false] at hd; rcases hd with rfl | rfl | rfl <;> first | exact okB_key h.1 | exact okB_int h.2 | exact okB_word (by decide +kernel)
  | drop k => exact okB_tup (by simp) fun d hd => by simp only [List.mem_cons, List.not_mem_nil, or_false] at hd; rcases hd with rfl | rfl <;> first | exact okB_key h | exact okB_word (by decide +kernel)
  | move a b => exact okB_tup (by simp) fun d hd => by simp only [List.mem_cons, List.not_mem_nil, or_false] at hd; rcases hd with rfl | rfl | rfl <;> first | exact okB_key h.1 | exact okB_key h.2 | exact okB_word (by decide +kernel)
def FSpoilt9 (T : Addr) : MSp := fun ss M Φ => ∃ (one : D) (n j : Int), ss = [.d one, .d (.int n), .d (.int j)] ∧ okB 2 one ∧ M T = some (.tab (lamQ "_law_spoilt")) ∧ ∀ d, okD 4 d → Φ (.d d) M
def FOnce (T : Addr) : MSp := fun ss M Φ => ∃ ns : List Int, ss = [.d (dInts ns)] ∧ M T = some (.tab (lamQ "_law_spoilt")) ∧ Φ (.d (.bool true)) M
theorem long9 (i : Int) (h0 : 0 ≤ i) (h1 : i < 3) : ∃ lg : Str, cutS "abcdef" none (some (3 + i)) = lg ∧ PyData.strOk lg = true ∧ lg.length ≤ 100 := by
  have : i = 0 ∨ i = 1 ∨ i = 2 := by omega
  rcases this with rfl | rfl | rfl <;> exact ⟨_, rfl, by decide +kernel, by decide +kernel⟩
def addF (t : Int) : D → Option D
  | .int j => some (.int (j + 104729 * t))
  | _ => none
theorem fm_addF (t : Int) (ns : List Int) : (ns.map PyData.int).filterMap (addF t) = (ns.map fun j => j + 104729 * t).map PyData.int := by
  rw [List.filterMap_map, List.map_map]
  exact fm_some (fun j : Int => PyData.int (j + 104729 * t)) ns
end AB

namespace AB
open PySem L2
def topS (i : Nat) : Stmt := PySem.Challenge.pw_awaybook_k09_lists_anywhere.main.body.getD i (.Pass ⟨0, 0, 0, 0⟩)
abbrev S_is_key : Stmt := topS 5
abbrev S_is_worth : Stmt := topS 6
abbrev S_is_pair : Stmt := topS 7
abbrev S_is_book : Stmt := topS 8
abbrev S_is_change : Stmt := topS 9
abbrev S_law_cell_at : Stmt := topS 11
abbrev S_law_mixed : Stmt := topS 12
abbrev S_law_drawn : Stmt := topS 13
abbrev S_law_change : Stmt := topS 14
abbrev S_law_book : Stmt := topS 15
abbrev S_law_is_key : Stmt := topS 16
abbrev S_law_is_worth : Stmt := topS 17
abbrev S_law_is_book : Stmt := topS 18
abbrev S_law_is_change : Stmt := topS 19
abbrev S_law_places_in : Stmt := topS 20
abbrev S_law_put_at : Stmt := topS 21
abbrev S_law_otherwise : Stmt := topS 22
abbrev S_law_spoilt : Stmt := topS 23
abbrev S_law_once : Stmt := topS 24
abbrev S_law : Stmt := topS 25
section
variable {P : Program} {w : World} {K : Fg} {mg : Str → Option Value} {base : Heap}
theorem sc_is_key : FnScope ["thing", "sign"] ["thing"] (defScope S_is_key) := ⟨rfl, rfl, rfl, by decide +kernel, rfl, by decide +kernel, by decide +kernel⟩
theorem ok_is_key (h : Dfn K mg "is_key" S_is_key ["thing"]) (B : Bt mg) (gL : GS mg "LETTERS" letters) (g4 : GI mg "LONGEST" 4) : DefD P w K mg base 1 "is_key" ["thing"] (FB1 isKeyD) := by
  refine def_okD h sc_is_key (fun ds d ⟨t, n, e, _⟩ => by rw [e]; rfl) fun f cdv A outer s H E ds d hr hF => ?_
  obtain ⟨t, n, rfl, ht, hn, rfl⟩ := hF
  refine dss_one (ds_ret (d := .bool (isKeyD t)) ?_ rfl)
  cases t with
  | str z =>
    have hz := len_ok ht
    refine PD.eq (pd_and (pd_isStr B (pdv 0)) (fun _ => pd_and (pd_chain op_le op_le rd_B (fun _ => rd_B) pd_int (pd_lenS (by rfl) B.len (pdv 0) hz) (pd_gi g4 (by rfl))) (fun _ => pd_one (pd_all (bs := z.cps.toList.map lowC) rfl (by rfl) B.all (PD.eq (pd_lc (own := [("sign", 1)]) (signF fun c => some (.bool (lowC c))) rfl sc_is_key.nd (blkOk_by (N := ["thing", "sign"]) (sc := defScope S_is_key) (by decide +kernel)) (pid_str (pdv 0)) (by rw [signs_len]; have := (okD_str ht).2; omega) (fun d hd => ?_)) ?_))))) ?_
    · obtain ⟨c, rfl⟩ := mem_signs hd
      refine ⟨_, [1], by simp, fun s H C cl fp => ⟨pgd_name 1 sc_is_key.nd, ptsd_nil, fun y hy => ?_⟩⟩
      cases hy
      rw [← low_letters]
      exact pd_inSign (pdv 1) (pd_gs gL (by rfl))
    · congr 1
      rw [fm_signF, fm_some, List.map_map]; rfl
    · unfold isKeyD isKeyS
      rw [List.all_map]; rfl
  | none => exact PD.eq (pd_and (v := false) (pd_isStr B (pdv 0)) (fun h => by cases h)) rfl
  | bool b => exact PD.eq (pd_and (v := false) (pd_isStr B (pdv 0)) (fun h => by cases h)) rfl
  | int i => exact PD.eq (pd_and (v := false) (pd_isStr B (pdv 0)) (fun h => by cases h)) rfl
  | list l => exact PD.eq (pd_and (v := false) (pd_isStr B (pdv 0)) (fun h => by cases h)) rfl
  | tuple l => exact PD.eq (pd_and (v := false) (pd_isStr B (pdv 0)) (fun h => by cases h)) rfl
  | dict l => exact PD.eq (pd_and (v := false) (pd_isStr B (pdv 0)) (fun h => by cases h)) rfl
theorem sc_is_worth : FnScope ["thing"] ["thing"] (defScope S_is_worth) := ⟨rfl, rfl, rfl, by decide +kernel, rfl, by decide +kernel, by decide +kernel⟩
theorem ok_is_worth (h : Dfn K mg "is_worth" S_is_worth ["thing"]) (B : Bt mg) (gR : GI mg "RING" 1000) : DefD P w K mg base 1 "is_worth" ["thing"] (FB1 isWorthD) := by
  refine def_okD h sc_is_worth (fun ds d ⟨t, n, e, _⟩ => by rw [e]; rfl) fun f cdv A outer s H E ds d hr hF => ?_
  obtain ⟨t, n, rfl, ht, hn, rfl⟩ := hF
  refine dss_one (ds_ret (d := .bool (isWorthD t)) ?_ rfl)
  cases t with
  | int i =>
    refine PD.eq (pd_and (pd_isInt B (pdv 0)) (fun _ => pd_and (pd_not (pd_isBool B (pdv 0))) (fun _ => pd_one (pd_chain op_le op_lt rd_B (fun _ => rd_B) pd_int (pdv 0) (pd_gi gR (by rfl)))))) ?_
    rfl
  | bool b => exact PD.eq (pd_and (pd_isInt B (pdv 0)) (fun _ => pd_and (v := false) (pd_not (pd_isBool B (pdv 0))) (fun h => by cases h))) rfl
  | str z => exact PD.eq (pd_and (v := false) (pd_isInt B (pdv 0)) (fun h => by cases h)) rfl
  | none => exact PD.eq (pd_and (v := false) (pd_isInt B (pdv 0)) (fun h => by cases h)) rfl
  | list l => exact PD.eq (pd_and (v := false) (pd_isInt B (pdv 0)) (fun h => by cases h)) rfl
  | tuple l => exact PD.eq (pd_and (v := false) (pd_isInt B (pdv 0)) (fun h => by cases h)) rfl
  | dict l => exact PD.eq (pd_and (v := false) (pd_isInt B (pdv 0)) (fun h => by cases h)) rfl
theorem sc_is_pair : FnScope ["thing"] ["thing"] (defScope S_is_pair) := ⟨rfl, rfl, rfl, by decide +kernel, rfl, by decide +kernel, by decide +kernel⟩
theorem ok_is_pair (h : Dfn K mg "is_pair" S_is_pair ["thing"]) (B : Bt mg) (hk : DefD P w K mg base 1 "is_key" ["thing"] (FB1 isKeyD)) (hw : DefD P w K mg base 1 "is_worth" ["thing"] (FB1 isWorthD)) : DefD P w K mg base 2 "is_pair" ["thing"] (FB1 isPairD) := by
  refine def_okD h sc_is_pair (fun ds d ⟨t, n, e, _⟩ => by rw [e]; rfl) fun f cdv A outer s H E ds d hr hF => ?_
  obtain ⟨t, n, rfl, ht, hn, rfl⟩ := hF
  refine dss_one (ds_ret (d := .bool (isPairD t)) ?_ rfl)
  cases t with
  | tuple l =>
    obtain ⟨hl, m, rfl, hm⟩ := okD_tup' ht
    by_cases h2 : ∃ a b, l = [a, b]
    · obtain ⟨a, b, rfl⟩ := h2
      exact PD.eq (pd_and (pd_isTup B (pdv 0)) (fun _ => pd_and (pd_eqI (pd_lenT (by rfl) B.len (pdv 0)) pd_int) (fun _ => pd_and (pd_call hk hr (by rfl) (pds_cons (pd_ixT (pdv 0) pd_int (atI_0 a [b])) pds_nil) ⟨a, m, rfl, hm a (by simp), by omega, rfl⟩) (fun _ => pd_one (pd_call hw hr (by rfl) (pds_cons (pd_ixT (pdv 0) pd_int (atI_1 a b [])) pds_nil) ⟨b, m, rfl, hm b (by simp), by omega, rfl⟩))))) rfl
    · have e : isPairD (.tuple l) = false := by
        unfold isPairD
        split
        · rename_i a b q; cases q; exact absurd ⟨a, b, rfl⟩ h2
        · rfl
      have ne : ¬ ((l.length : Int) = 2) := fun q => h2 (by
        have q : l.length = 2 := by omega
        match l, q with
        | [a, b], _ => exact ⟨a, b, rfl⟩)
      rw [e]
      refine PD.eq (pd_and (pd_isTup B (pdv 0)) (fun _ => pd_and (v := false) (pd_eqI (pd_lenT (by rfl) B.len (pdv 0)) pd_int) (fun q => absurd (of_decide_eq_true q) ne))) ?_
      simp
  | int i => exact PD.eq (pd_and (v := false) (pd_isTup B (pdv 0)) (fun h => by cases h)) rfl
  | bool b => exact PD.eq (pd_and (v := false) (pd_isTup B (pdv 0)) (fun h => by cases h)) rfl
  | str z => exact PD.eq (pd_and (v := false) (pd_isTup B (pdv 0)) (fun h => by cases h)) rfl
  | none => exact PD.eq (pd_and (v := false) (pd_isTup B (pdv 0)) (fun h => by cases h)) rfl
  | list l => exact PD.eq (pd_and (v := false) (pd_isTup B (pdv 0)) (fun h => by cases h)) rfl
  | dict l => exact PD.eq (pd_and (v := false) (pd_isTup B (pdv 0)) (fun h => by cases h)) rfl
theorem sc_is_book : FnScope ["thing", "part", "one", "other"] ["thing"] (defScope S_is_book) := ⟨rfl, rfl, rfl, by decide +kernel, rfl, by decide +kernel, by decide +kernel⟩
theorem ok_is_book (h : Dfn K mg "is_book" S_is_book ["thing"]) (B : Bt mg) (hp : DefD P w K mg base 2 "is_pair" ["thing"] (FB1 isPairD)) : DefD P w K mg base 3 "is_book" ["thing"] (FB1 isBookD) := by
  refine def_okD h sc_is_book (fun ds d ⟨t, n, e, _⟩ => by rw [e]; rfl) fun f cdv A outer s H E ds d hr hF => ?_
  obtain ⟨t, n, rfl, ht, hn, rfl⟩ := hF
  by_cases hT : ∃ l, t = .tuple l
  · obtain ⟨l, rfl⟩ := hT
    obtain ⟨hl, m, rfl, hm⟩ := okD_tup' ht
    refine dss_cons (ds_if (b := !(l.all isPairD)) (PTD.eq (PWD.pt (pwd_or (ptd_not (ptd_val (pd_isTup B (pdv 0)))) (fun _ => pwd_or1 (ptd_not (ptd_val (pd_all (bs := l.map isPairD) rfl (by rfl) B.all (PD.eq (pd_lc (own := [("part", 1)]) (fun d => some (.bool (isPairD d))) rfl sc_is_book.nd (blkOk_by (N := ["thing", "part", "one", "other"]) (sc := defScope S_is_book) (by decide +kernel)) (pid_tup (pdv 0)) (by omega) (fun d hd => ?_)) ?_))))))) ?_) (fun hb => ?_) (fun hb => ?_))
    · refine ⟨_, [1], by simp, fun s H C cl fp => ⟨pgd_name 1 sc_is_book.nd, ptsd_nil, fun y hy => ?_⟩⟩
      cases hy
      exact pd_call hp hr (by rfl) (pds_cons (pdv 1) pds_nil) ⟨d, m, rfl, hm d hd, by omega, rfl⟩
    · congr 1
      rw [fm_some, List.map_map]; rfl
    · rw [List.all_map]; rfl
    · have hb : l.all isPairD = false := by simpa using hb
      refine dss_one (ds_ret pd_bl ?_)
      show Sl.d (.bool false) = Sl.d (.bool (l.all isPairD && risingD l))
      rw [hb]; rfl
    · have hb : l.all isPairD = true := by simpa using hb
      have hpr : ∀ d ∈ l, ∃ k w, d = .tuple [.str k, .int w] := fun d hd => by
        have q := List.all_eq_true.mp hb d hd
        exact pair_form q
      refine dss_nil (dss_one (ds_ret (d := .bool (isBookD (.tuple l))) (PD.eq (pd_all (bs := (zipD (cutD l none (some (-1))) (cutD l (some 1) none)).map pairLt) rfl (by rfl) B.all (PD.eq (pd_lc (own := [("one", 2), ("other", 3)]) (fun d => some (.bool (pairLt d))) rfl sc_is_book.nd (blkOk_by (N := ["thing", "part", "one", "other"]) (sc := defScope S_is_book) (by decide +kernel)) (pid_zipT (by rfl) B.zip (pd_slT (pdv 0) pod_none (pod_some (pd_neg pd_int))) (pd_slT (pdv 0) (pod_some pd_int) pod_none)) ?_ (fun d hd => ?_)) ?_)) ?_) rfl))
      · rw [zipD_len]
        have := cutD_len l none (some (-1))
        omega
      · obtain ⟨i, hi⟩ := List.getElem?_of_mem hd
        obtain ⟨x, y, e1, e2, rfl⟩ := zipD_get hi
        obtain ⟨k1, w1, rfl⟩ := hpr x (cutD_mem (List.mem_of_getElem? e1))
        obtain ⟨k2, w2, rfl⟩ := hpr y (cutD_mem (List.mem_of_getElem? e2))
        refine ⟨_, [2] ++ ([3] ++ []), by simp, fun s H C cl fp => ⟨pgd_tup (n := 2) rfl (pgds_cons (pgd_name 2 sc_is_book.nd) (pgds_cons (pgd_name 3 sc_is_book.nd) pgds_nil)), ptsd_nil, fun z hz => ?_⟩⟩
        cases hz
        exact pd_cmp op_lt_str rd_ltS (pd_ixT (pdv 2) pd_int (atI_0 _ _)) (pd_ixT (pdv 3) pd_int (atI_0 _ _))
      · congr 1
        rw [fm_some, List.map_map]; rfl
      · show PyData.bool _ = PyData.bool (l.all isPairD && risingD l)
        rw [hb, List.all_map, Bool.true_and]
        congr 1
        exact rising_zip l
  · refine dss_cons (ds_if (b := true) (PTD.eq (PWD.pt (pwd_or (v := false) (ptd_not (ptd_val (pd_isTup B (pdv 0)))) (fun q => ?_))) ?_) (fun _ => dss_one (ds_ret pd_bl ?_)) (fun hb => nomatch hb))
    · cases t <;> first | exact absurd ⟨_, rfl⟩ hT | cases q
    · cases t <;> first | exact absurd ⟨_, rfl⟩ hT | rfl
    · cases t <;> first | exact absurd ⟨_, rfl⟩ hT | rfl
theorem sc_is_change : FnScope ["thing"] ["thing"] (defScope S_is_change) := ⟨rfl, rfl, rfl, by decide +kernel, rfl, by decide +kernel, by decide +kernel⟩
theorem ok_is_change (h : Dfn K mg "is_change" S_is_change ["thing"]) (B : Bt mg) (gW : GT K mg "WITH_WORTH" [.str "put", .str "add", .str "keep"]) (hk : DefD P w K mg base 1 "is_key" ["thing"] (FB1 isKeyD)) (hw : DefD P w K mg base 1 "is_worth" ["thing"] (FB1 isWorthD)) : DefD P w K mg base 2 "is_change" ["thing"] (FB1 isChangeD) := by
  refine def_okD h sc_is_change (fun ds d ⟨t, n, e, _⟩ => by rw [e]; rfl) fun f cdv A outer s H E ds d hr hF => ?_
  obtain ⟨t, n, rfl, ht, hn, rfl⟩ := hF
  by_cases hT : ∃ l, t = .tuple l
  · obtain ⟨l, rfl⟩ := hT
    obtain ⟨hl, m, rfl, hm⟩ := okD_tup' ht
    by_cases hs : (l.length : Int) < 2
    · refine dss_cons (ds_if (b := true) (PTD.eq (PWD.pt (pwd_or (ptd_not (ptd_val (pd_isTup B (pdv 0)))) (fun _ => pwd_or (v := false) (ptd_lt (pd_lenT (by rfl) B.len (pdv 0)) pd_int) (fun q => absurd hs (of_decide_eq_false q))))) (by rw [decide_eq_true hs]; rfl)) (fun _ => dss_one (ds_ret pd_bl ?_)) (fun hb => nomatch hb))
      show Sl.d (.bool false) = Sl.d (.bool (isChangeD (.tuple l)))
      rw [change_short hs]
    · obtain ⟨x, y, r, rfl⟩ : ∃ x y r, l = x :: y :: r := by
        match l, hs with
        | [], hs => exact absurd (by decide) hs
        | [_], hs => exact absurd (show ((1 : Nat) : Int) < 2 by decide) hs
        | x :: y :: r, _ => exact ⟨x, y, r, rfl⟩
      have hx := hm x (by simp)
      have hy := hm y (by simp)
      refine dss_cons (ds_if (b := !(isStrD x && isKeyD y)) (PTD.eq (PWD.pt (pwd_or (ptd_not (ptd_val (pd_isTup B (pdv 0)))) (fun _ => pwd_or (ptd_lt (pd_lenT (by rfl) B.len (pdv 0)) pd_int) (fun _ => pwd_or (ptd_not (ptd_val (pd_isStr B (pd_ixT (pdv 0) pd_int (atI_0 x _))))) (fun _ => pwd_or1 (ptd_not (ptd_val (pd_call hk hr (by rfl) (pds_cons (pd_ixT (pdv 0) pd_int (atI_1 x y r)) pds_nil) ⟨y, m, rfl, hy, by omega, rfl⟩)))))))) ?_) (fun hb => ?_) (fun hb => ?_))
      · rw [decide_eq_false hs]
        cases isStrD x <;> cases isKeyD y <;> rfl
      · refine dss_one (ds_ret pd_bl ?_)
        show Sl.d (.bool false) = Sl.d (.bool (isChangeD (.tuple (x :: y :: r))))
        cases q1 : isStrD x with
        | false => rw [change_word q1]
        | true =>
          have q2 : isKeyD y = false := by rw [q1] at hb; simpa using hb
          rw [change_key q2]
      · have q1 : isStrD x = true := by cases q : isStrD x <;> rw [q] at hb <;> simp at hb <;> rfl
        have q2 : isKeyD y = true := by rw [q1] at hb; simpa using hb
        obtain ⟨w, rfl⟩ : ∃ w, x = .str w := by
          cases x <;> first | exact ⟨_, rfl⟩ | cases q1
        refine dss_nil (dss_cons (ds_if (ptd_eqS (pd_ixT (pdv 0) pd_int (atI_0 _ _)) pd_str) (fun hd => ?_) (fun hd => ?_)))
        · have hd := of_decide_eq_true hd
          refine dss_one (ds_ret (pd_eqI (pd_lenT (by rfl) B.len (pdv 0)) pd_int) ?_)
          show Sl.d (.bool (decide (((_ :: _ :: r).length : Int) = 2))) = Sl.d (.bool (isChangeD (.tuple (.str w :: y :: r))))
          match r with
          | [] => rw [change_two _ _ q2, decide_eq_true hd]; rfl
          | [z] =>
            subst hd
            rw [change_three _ _ _ q2]; rfl
          | z :: z' :: r =>
            rw [change_more _ _ _ (by simp only [List.length_cons]; omega) (by simp only [List.length_cons]; omega), decide_eq_false (by simp only [List.length_cons]; omega)]
        · have hd := of_decide_eq_false hd
          refine dss_nil (dss_cons (ds_if (ptd_neI (pd_lenT (by rfl) B.len (pdv 0)) pd_int) (fun h3 => ?_) (fun h3 => ?_)))
          · refine dss_one (ds_ret pd_bl ?_)
            show Sl.d (.bool false) = Sl.d (.bool (isChangeD (.tuple (.str w :: y :: r))))
            match r with
            | [] => rw [change_two _ _ q2, decide_eq_false hd]
            | [z] => exact absurd h3 (by simp)
            | z :: z' :: r => rw [change_more _ _ _ (by simp only [List.length_cons]; omega) (by simp only [List.length_cons]; omega)]
          · obtain ⟨z, rfl⟩ : ∃ z, r = [z] := by
              match r with
              | [] => simp at h3
              | [z] => exact ⟨z, rfl⟩
              | z :: z' :: r => simp at h3; omega
            have hz := hm z (by simp)
            refine dss_nil (dss_cons (ds_if (ptd_eqS (pd_ixT (pdv 0) pd_int (atI_0 _ _)) pd_str) (fun he => ?_) (fun he => ?_)))
            · have he := of_decide_eq_true he
              subst he
              refine dss_one (ds_ret (pd_call hk hr (by rfl) (pds_cons (pd_ixT (pdv 0) pd_int (atI_2 _ _ z _)) pds_nil) ⟨z, m, rfl, hz, by omega, rfl⟩) ?_)
              show Sl.d (.bool (isKeyD z)) = Sl.d (.bool (isChangeD (.tuple [.str "move", y, z])))
              rw [change_three _ _ _ q2]
              rw [show (decide (("move" : Str) = "put") || decide (("move" : Str) = "add") || decide (("move" : Str) = "keep")) = false by decide +kernel]
              simp
            · have he := of_decide_eq_false he
              refine dss_nil (dss_one (ds_ret (pd_and (pd_inStrs (ts := ["put", "add", "keep"]) (pd_ixT (pdv 0) pd_int (atI_0 _ _)) (pd_gt gW (by rfl))) (fun _ => pd_one (pd_call hw hr (by rfl) (pds_cons (pd_ixT (pdv 0) pd_int (atI_2 _ _ z _)) pds_nil) ⟨z, m, rfl, hz, by omega, rfl⟩))) ?_))
              show Sl.d (.bool (decide (w ∈ (["put", "add", "keep"] : List Str)) && isWorthD z)) = Sl.d (.bool (isChangeD (.tuple [.str w, y, z])))
              rw [change_three _ _ _ q2, decide_eq_false he]
              simp [Bool.or_assoc]
  · refine dss_cons (ds_if (b := true) (PTD.eq (PWD.pt (pwd_or (v := false) (ptd_not (ptd_val (pd_isTup B (pdv 0)))) (fun q => ?_))) ?_) (fun _ => dss_one (ds_ret pd_bl ?_)) (fun hb => nomatch hb))
    · cases t <;> first | exact absurd ⟨_, rfl⟩ hT | cases q
    · cases t <;> first | exact absurd ⟨_, rfl⟩ hT | rfl
    · cases t <;> first | exact absurd ⟨_, rfl⟩ hT | rfl
theorem sc_law_cell_at : FnScope ["script", "k"] ["script", "k"] (defScope S_law_cell_at) := ⟨rfl, rfl, rfl, by decide +kernel, rfl, by decide +kernel, by decide +kernel⟩
theorem ok_law_cell_at (h : Dfn K mg "_law_cell_at" S_law_cell_at ["script", "k"]) (B : Bt mg) : DefD P w K mg base 1 "_law_cell_at" ["script", "k"] FCell := by
  refine def_okD h sc_law_cell_at (fun ds d ⟨ns, k, e, _⟩ => by rw [e]; rfl) fun f cdv A outer s H E ds d hr hF => ?_
  obtain ⟨ns, k, rfl, hk, rfl⟩ := hF
  refine dss_cons (ds_if (ptd_lt (pdv 1) (pd_lenL (by rfl) B.len (pdv 0))) (fun hb => ?_) (fun hb => ?_))
  · have hb := of_decide_eq_true hb
    rw [List.length_map] at hb
    have hlt : k.toNat < ns.length := by omega
    refine dss_one (ds_ret (pd_ixL (pdv 0) (pdv 1) (d := .int (cellAt ns k)) ?_) rfl)
    unfold atI ixN
    rw [List.length_map, if_pos hk, if_pos hb]
    show (ns.map PyData.int)[k.toNat]? = some _
    rw [List.getElem?_map, List.getElem?_eq_getElem hlt]
    unfold cellAt
    rw [if_pos hb, List.getD_eq_getElem?_getD, List.getElem?_eq_getElem hlt]
    rfl
  · have hb := of_decide_eq_false hb
    rw [List.length_map] at hb
    refine dss_nil (dss_one (ds_ret pd_int ?_))
    unfold cellAt
    rw [if_neg hb]
theorem sc_law_mixed : FnScope ["script", "k", "drawn"] ["script", "k"] (defScope S_law_mixed) := ⟨rfl, rfl, rfl, by decide +kernel, rfl, by decide +kernel, by decide +kernel⟩
theorem ok_law_mixed (h : Dfn K mg "_law_mixed" S_law_mixed ["script", "k"]) (hc : DefD P w K mg base 1 "_law_cell_at" ["script", "k"] FCell) : DefD P w K mg base 2 "_law_mixed" ["script", "k"] FMixed := by
  refine def_okD h sc_law_mixed (fun ds d ⟨ns, k, e, _⟩ => by rw [e]; rfl) fun f cdv A outer s H E ds d hr hF => ?_
  obtain ⟨ns, k, rfl, hk, hk2, rfl⟩ := hF
  have b := mixA_b (cellAt ns k) k
  refine dss_cons (ds_set 2 sc_law_mixed.nd (pd_mod (pd_mulR (pd_add (pd_add (pd_call hc hr (by rfl) (pds_cons (pdv 0) (pds_cons (pdv 1) pds_nil)) ⟨ns, k, rfl, hk, rfl⟩) (pd_mulL pd_int (pdv 1) (by decide))) pd_int) pd_int (by decide)) pd_int (by decide)) ?_)
  refine dss_one (ds_ret (pd_mod (pd_add (pd_add (pd_mulL (pdv 2) (pdv 2) ?_) (pd_mulL pd_int (pdv 2) (by decide))) (pdv 1)) pd_int (by decide)) rfl)
  exact ⟨by show _ < mixA _ _; omega, by show mixA _ _ < _; omega⟩
theorem sc_law_drawn : FnScope ["number", "k", "drawn"] ["number", "k"] (defScope S_law_drawn) := ⟨rfl, rfl, rfl, by decide +kernel, rfl, by decide +kernel, by decide +kernel⟩
theorem ok_law_drawn (h : Dfn K mg "_law_drawn" S_law_drawn ["number", "k"]) : DefD P w K mg base 1 "_law_drawn" ["number", "k"] FDrawn := by
  refine def_okD h sc_law_drawn (fun ds d ⟨ns, k, e, _⟩ => by rw [e]; rfl) fun f cdv A outer s H E ds d hr hF => ?_
  obtain ⟨n, k, rfl, hk, hk2, rfl⟩ := hF
  have b := drawA_b n k
  refine dss_cons (ds_set 2 sc_law_drawn.nd (pd_mod (pd_mulR (pd_add (pd_add (pdv 0) (pd_mulL pd_int (pdv 1) (by decide))) pd_int) pd_int (by decide)) pd_int (by decide)) ?_)
  refine dss_one (ds_ret (pd_mod (pd_add (pd_add (pd_mulL (pdv 2) (pdv 2) ?_) (pd_mulL pd_int (pdv 2) (by decide))) (pdv 1)) pd_int (by decide)) rfl)
  exact ⟨by show _ < drawA _ _; omega, by show drawA _ _ < _; omega⟩
theorem sc_law_change : FnScope ["number", "many", "key", "other", "worth", "kind"] ["number", "many"] (defScope S_law_change) := ⟨rfl, rfl, rfl, by decide +kernel, rfl, by decide +kernel, by decide +kernel⟩
theorem ok_law_change (h : Dfn K mg "_law_change" S_law_change ["number", "many"]) : DefD P w K mg base 1 "_law_change" ["number", "many"] FChange := by
  refine def_okD h sc_law_change (fun ds d ⟨ns, k, e, _⟩ => by rw [e]; rfl) fun f cdv A outer s H E ds d hr hF => ?_
  obtain ⟨n, many, rfl, hn, h1, h2, rfl⟩ := hF
  have pm : (0 : Int) < many := by omega
  have k1 : 0 ≤ n / 8 % many := Int.emod_nonneg _ (by omega)
  have k2 : n / 8 % many < 4 := by have := Int.emod_lt_of_pos (n / 8) pm; omega
  have o1 : 0 ≤ n / 64 % many := Int.emod_nonneg _ (by omega)
  have o2 : n / 64 % many < 4 := by have := Int.emod_lt_of_pos (n / 64) pm; omega
  refine dss_cons (ds_set 2 sc_law_change.nd (d := .str (keyN (n / 8 % many))) (pd_ixS pd_str (pd_mod (pd_div (pdv 0) pd_int (by decide)) (pdv 1) pm) abcd_len (abcd_at k1 k2)) ?_)
  refine dss_cons (ds_set 3 sc_law_change.nd (d := .str (keyN (n / 64 % many))) (pd_ixS pd_str (pd_mod (pd_div (pdv 0) pd_int (by decide)) (pdv 1) pm) abcd_len (abcd_at o1 o2)) ?_)
  refine dss_cons (ds_set 4 sc_law_change.nd (d := .int (n / 512 % wsel (n / 16 % 4))) (pd_mod (pd_div (pdv 0) pd_int (by decide)) (pd_ixT (pd_tup (pds_cons pd_int (pds_cons pd_int (pds_cons pd_int (pds_cons pd_int pds_nil))))) (pd_mod (pd_div (pdv 0) pd_int (by decide)) pd_int (by decide)) (wsel_at (by omega) (by omega))) (wsel_pos _)) ?_)
  refine dss_cons (ds_set 5 sc_law_change.nd (pd_mod (pdv 0) pd_int (by decide)) ?_)
  refine dss_cons (ds_if (ptd_eqI (pdv 5) pd_int) (fun hb => ?_) (fun hb => dss_nil ?_))
  · have hb := of_decide_eq_true hb
    refine dss_one (ds_ret (pd_tup (pds_cons pd_str (pds_cons (pdv 2) (pds_cons (pdv 3) pds_nil)))) ?_)
    unfold lawChange
    rw [if_pos hb]; rfl
  · have hb := of_decide_eq_false hb
    refine dss_cons (ds_if (ptd_eqI (pdv 5) pd_int) (fun hc => ?_) (fun hc => dss_nil ?_))
    · have hc := of_decide_eq_true hc
      refine dss_one (ds_ret (pd_tup (pds_cons pd_str (pds_cons (pdv 2) pds_nil))) ?_)
      unfold lawChange
      rw [if_neg hb, if_pos hc]; rfl
    · have hc := of_decide_eq_false hc
      have hw : ∃ c, atI [(.str "put" : D), .str "add", .str "keep"] (n % 8 % 3) = some (.str c) ∧ dChg (lawChange n many) = .tuple [.str c, .str (keyN (n / 8 % many)), .int (n / 512 % wsel (n / 16 % 4))] := by
        have h3 : n % 8 % 3 = 0 ∨ n % 8 % 3 = 1 ∨ n % 8 % 3 = 2 := by omega
        unfold lawChange
        rw [if_neg hb, if_neg hc]
        rcases h3 with e | e | e
        · exact ⟨"put", by rw [e]; rfl, by rw [if_pos e]; rfl⟩
        · exact ⟨"add", by rw [e]; rfl, by rw [if_neg (by omega), if_pos e]; rfl⟩
        · exact ⟨"keep", by rw [e]; rfl, by rw [if_neg (by omega), if_neg (by omega)]; rfl⟩
      obtain ⟨c, e1, e2⟩ := hw
      refine dss_one (ds_ret (pd_tup (pds_cons (pd_ixT (pd_tup (pds_cons pd_str (pds_cons pd_str (pds_cons pd_str pds_nil)))) (pd_mod (pdv 5) pd_int (by decide)) e1) (pds_cons (pdv 2) (pds_cons (pdv 4) pds_nil)))) ?_)
      rw [e2]
theorem sc_law_book : FnScope ["number", "found", "k", "key", "drawn"] ["number"] (defScope S_law_book) := ⟨rfl, rfl, rfl, by decide +kernel, rfl, by decide +kernel, by decide +kernel⟩
theorem ok_law_book (h : Dfn K mg "_law_book" S_law_book ["number"]) (B : Bt mg) (hd : DefD P w K mg base 1 "_law_drawn" ["number", "k"] FDrawn) : DefD P w K mg base 2 "_law_book" ["number"] FBook := by
  refine def_okD h sc_law_book (fun ds d ⟨ns, e, _⟩ => by rw [e]; rfl) fun f cdv A outer s H E ds d hr hF => ?_
  obtain ⟨n, rfl, rfl⟩ := hF
  refine dss_cons (ds_set 1 sc_law_book.nd (pd_tup pds_nil) ?_)
  refine dss_cons (ds_for (fun i ρ M => M = m0 ∧ ∃ s2 s3 s4, ρ = [.d (.int n), .d (dBook ((List.range i).filterMap (bookAt n))), s2, s3, s4]) PassesOwn.never rfl (pid_enumS (by rfl) B.enumerate pd_str) ⟨rfl, .u, .u, .u, rfl⟩ ?_ ?_)
  · rintro i d ρ M hi ⟨rfl, s2, s3, s4, rfl⟩
    obtain ⟨x, hx, rfl⟩ := enumD_get hi
    rw [abcd_signs] at hx
    have hi4 : i < 4 := (List.getElem?_eq_some_iff.mp hx).1
    have ex : x = .str (keyN (i : Nat)) := by
      have : i = 0 ∨ i = 1 ∨ i = 2 ∨ i = 3 := by omega
      rcases this with rfl | rfl | rfl | rfl <;> exact (Option.some.inj hx).symm
    subst ex
    refine ⟨_, _, pgd_tup (n := 2) rfl (pgds_cons (pgd_name 2 sc_law_book.nd) (pgds_cons (pgd_name 3 sc_law_book.nd) pgds_nil)), ?_⟩
    refine dss_cons (ds_set 4 sc_law_book.nd (pd_div (pd_call hd hr (by rfl) (pds_cons (pdv 0) (pds_cons (pd_add pd_int (pdv 2)) pds_nil)) ⟨n, 60 + (i : Nat), rfl, by omega, by omega, rfl⟩) pd_int (by decide)) ?_)
    refine dss_one (ds_if (ptd_gt (pd_mod (pdv 4) pd_int (by decide)) pd_int) (fun hb => ?_) (fun hb => ?_))
    · have hb := of_decide_eq_true hb
      have hz : ((List.range i).filterMap (bookAt n)).length ≤ i := by
        have := List.length_filterMap_le (bookAt n) (List.range i)
        rwa [List.length_range] at this
      have ht : ∃ t, atI [(.int 1000 : D), .int 3] (drawn n (60 + (i : Nat)) / 4 / 16 % 2) = some (.int t) ∧ t = (if drawn n (60 + (i : Nat)) / 4 / 16 % 2 = 0 then 1000 else 3) := by
        have : drawn n (60 + (i : Nat)) / 4 / 16 % 2 = 0 ∨ drawn n (60 + (i : Nat)) / 4 / 16 % 2 = 1 := by omega
        rcases this with e | e
        · rw [e]; exact ⟨1000, rfl, rfl⟩
        · rw [e]; exact ⟨3, rfl, rfl⟩
      obtain ⟨t, e1, e2⟩ := ht
      have tp : 0 < t := by rw [e2]; split <;> decide
      refine dss_one (ds_set 1 sc_law_book.nd (pd_catT (pdv 1) (pd_tup (pds_cons (pd_tup (pds_cons (pdv 3) (pds_cons (pd_mod (pd_div (pdv 4) pd_int (by decide)) (pd_ixT (pd_tup (pds_cons pd_int (pds_cons pd_int pds_nil))) (pd_mod (pd_div (pdv 4) pd_int (by decide)) pd_int (by decide)) e1) tp) pds_nil))) pds_nil)) ?_) ?_)
      · have : sizeLine = 16777216 := rfl
        simp only [List.length_map, List.length_cons, List.length_nil]
        omega
      · refine ⟨rfl, .d (.int (i : Nat)), .d (.str (keyN (i : Nat))), .d (.int (drawn n (60 + (i : Nat)) / 4)), ?_⟩
        have e : dBook ((List.range (i + 1)).filterMap (bookAt n)) = .tuple (((List.range i).filterMap (bookAt n)).map dPair ++ [.tuple [.str (keyN (i : Nat)), .int (drawn n (60 + (i : Nat)) / 4 / 4 % t)]]) := by
          unfold dBook
          rw [List.range_succ, List.filterMap_append, List.map_append]
          congr 2
          show List.map dPair (List.filterMap (bookAt n) [i]) = _
          have : bookAt n i = some (keyN (i : Nat), drawn n (60 + (i : Nat)) / 4 / 4 % t) := by
            unfold bookAt
            rw [if_pos hb, e2]
          rw [List.filterMap_cons, this]; rfl
        rw [e]; rfl
    · have hb := of_decide_eq_false hb
      refine dss_nil ⟨rfl, .d (.int (i : Nat)), .d (.str (keyN (i : Nat))), .d (.int (drawn n (60 + (i : Nat)) / 4)), ?_⟩
      have e : (List.range (i + 1)).filterMap (bookAt n) = (List.range i).filterMap (bookAt n) := by
        rw [List.range_succ, List.filterMap_append]
        have : bookAt n i = none := by
          unfold bookAt
          rw [if_neg hb]
        rw [List.filterMap_cons, this]
        simp
      rw [e]; rfl
  · rintro ρ M ⟨rfl, s2, s3, s4, rfl⟩
    rw [enumD_len, abcd_signs]
    exact dss_one (ds_ret (pdv 1) rfl)
theorem sc_law_is_key : FnScope ["thing", "sign"] ["thing"] (defScope S_law_is_key) := ⟨rfl, rfl, rfl, by decide +kernel, rfl, by decide +kernel, by decide +kernel⟩
theorem ok_law_is_key (h : Dfn K mg "_law_is_key" S_law_is_key ["thing"]) (B : Bt mg) : DefD P w K mg base 1 "_law_is_key" ["thing"] (FB1 isKeyD) := by
  refine def_okD h sc_law_is_key (fun ds d ⟨t, n, e, _⟩ => by rw [e]; rfl) fun f cdv A outer s H E ds d hr hF => ?_
  obtain ⟨t, n, rfl, ht, hn, rfl⟩ := hF
  by_cases hT : ∃ z, t = .str z
  · obtain ⟨z, rfl⟩ := hT
    have hz := len_ok ht
    refine dss_cons (ds_if (b := !(decide (1 ≤ (z.length : Int)) && decide ((z.length : Int) ≤ 4))) (PTD.eq (PWD.pt (pwd_or (ptd_not (ptd_val (pd_isStr B (pdv 0)))) (fun _ => pwd_or1 (ptd_not (ptd_chain op_le op_le rd_B (fun _ => rd_B) pd_int (pd_lenS (by rfl) B.len (pdv 0) hz) pd_int))))) rfl) (fun hb => dss_one (ds_ret pd_bl ?_)) (fun hb => dss_nil ?_))
    · show Sl.d (.bool false) = Sl.d (.bool (isKeyS z))
      have hb := not_t hb
      unfold isKeyS
      rw [hb]; rfl
    · have hb := not_f hb
      have hlen : z.length ≤ 4 := by
        rw [Bool.and_eq_true] at hb
        have := of_decide_eq_true hb.2
        omega
      refine dss_one (ds_ret (d := .bool (isKeyS z)) (PD.eq (pd_eq hr.units (PD.eq (pd_lc (own := [("sign", 1)]) (signF fun c => if lowC c then none else some (.str ⟨#[c]⟩)) rfl sc_law_is_key.nd (blkOk_by (N := ["thing", "sign"]) (sc := defScope S_law_is_key) (by decide +kernel)) (pid_str (pdv 0)) (by rw [signs_len]; omega) (fun d hd => ?_)) (fm_low z)) (pd_lst pds_nil) (shaped_ok (n := 2) (okD_lst ?_ fun d hd => ?_) (by omega)) rfl) ?_) rfl)
      · obtain ⟨c, rfl⟩ := mem_signs hd
        refine ⟨_, [1], by simp, fun s H C cl fp => ⟨pgd_name 1 sc_law_is_key.nd, ptsd_one (PTD.eq (ptd_not (ptd_chain op_le_str op_le_str rd_leS (fun _ => rd_leS) pd_str (pdv 1) pd_str)) ?_), fun y hy => ?_⟩⟩
        · show (!(!decide (([c] : List Nat) < ("a" : Str).cps.toList) && !decide (("z" : Str).cps.toList < ([c] : List Nat)))) = (if lowC c then none else some (PyData.str ⟨#[c]⟩)).isSome
          rw [low_chain]
          cases lowC c <;> rfl
        · have hy : (if lowC c then none else some (PyData.str ⟨#[c]⟩)) = some y := hy
          split at hy
          · cases hy
          · cases hy; exact pdv 1
      · rw [List.length_map]
        exact Nat.le_trans (List.length_filter_le _ _) (by rw [Array.length_toList]; exact Nat.le_trans hlen (by decide))
      · obtain ⟨c, hc, rfl⟩ := List.mem_map.mp hd
        have hc := (List.mem_filter.mp hc).1
        refine okD_str' ?_ (one_len c 999)
        have q := (okD_str ht).1
        unfold PyData.strOk at q ⊢
        rw [Array.all_eq_true_iff_forall_mem] at q
        have := q c (by simpa using hc)
        simpa using this
      · rw [eqv_nil]
        unfold isKeyS
        rw [hb, Bool.true_and, List.isEmpty_map, empty_not]
  · refine dss_cons (ds_if (b := true) (PTD.eq (PWD.pt (pwd_or (v := false) (ptd_not (ptd_val (pd_isStr B (pdv 0)))) (fun q => ?_))) ?_) (fun _ => dss_one (ds_ret pd_bl ?_)) (fun hb => nomatch hb))
    · cases t <;> first | exact absurd ⟨_, rfl⟩ hT | cases q
    · cases t <;> first | exact absurd ⟨_, rfl⟩ hT | rfl
    · cases t <;> first | exact absurd ⟨_, rfl⟩ hT | rfl
theorem sc_law_is_worth : FnScope ["thing"] ["thing"] (defScope S_law_is_worth) := ⟨rfl, rfl, rfl, by decide +kernel, rfl, by decide +kernel, by decide +kernel⟩
theorem ok_law_is_worth (h : Dfn K mg "_law_is_worth" S_law_is_worth ["thing"]) (B : Bt mg) : DefD P w K mg base 1 "_law_is_worth" ["thing"] (FB1 isWorthD) := by
  refine def_okD h sc_law_is_worth (fun ds d ⟨t, n, e, _⟩ => by rw [e]; rfl) fun f cdv A outer s H E ds d hr hF => ?_
  obtain ⟨t, n, rfl, ht, hn, rfl⟩ := hF
  refine dss_one (ds_ret (d := .bool (isWorthD t)) ?_ rfl)
  cases t with
  | int i =>
    refine PD.eq (pd_and (pd_isInt B (pdv 0)) (fun _ => pd_and (pd_not (pd_isBool B (pdv 0))) (fun _ => pd_one (pd_chain op_le op_le rd_B (fun _ => rd_B) pd_int (pdv 0) pd_int)))) ?_
    show PyData.bool (decide (0 ≤ i) && decide (i ≤ 999)) = .bool (decide (0 ≤ i) && decide (i < 1000))
    congr 2
    exact decide_eq_decide.mpr (by omega)
  | bool b => exact PD.eq (pd_and (pd_isInt B (pdv 0)) (fun _ => pd_and (v := false) (pd_not (pd_isBool B (pdv 0))) (fun h => by cases h))) rfl
  | str z => exact PD.eq (pd_and (v := false) (pd_isInt B (pdv 0)) (fun h => by cases h)) rfl
  | none => exact PD.eq (pd_and (v := false) (pd_isInt B (pdv 0)) (fun h => by cases h)) rfl
  | list l => exact PD.eq (pd_and (v := false) (pd_isInt B (pdv 0)) (fun h => by cases h)) rfl
  | tuple l => exact PD.eq (pd_and (v := false) (pd_isInt B (pdv 0)) (fun h => by cases h)) rfl
  | dict l => exact PD.eq (pd_and (v := false) (pd_isInt B (pdv 0)) (fun h => by cases h)) rfl
theorem sc_law_is_book : FnScope ["thing", "last", "part"] ["thing"] (defScope S_law_is_book) := ⟨rfl, rfl, rfl, by decide +kernel, rfl, by decide +kernel, by decide +kernel⟩
theorem ok_law_is_book (h : Dfn K mg "_law_is_book" S_law_is_book ["thing"]) (B : Bt mg) (hk : DefD P w K mg base 1 "_law_is_key" ["thing"] (FB1 isKeyD)) (hw : DefD P w K mg base 1 "_law_is_worth" ["thing"] (FB1 isWorthD)) : DefD P w K mg base 2 "_law_is_book" ["thing"] (FB1 isBookD) := by
  refine def_okD h sc_law_is_book (fun ds d ⟨t, n, e, _⟩ => by rw [e]; rfl) fun f cdv A outer s H E ds d hr hF => ?_
  obtain ⟨t, n, rfl, ht, hn, rfl⟩ := hF
  refine dss_cons (ds_set 1 sc_law_is_book.nd pd_str ?_)
  by_cases hT : ∃ l, t = .tuple l
  · obtain ⟨l, rfl⟩ := hT
    obtain ⟨hl, m, rfl, hm⟩ := okD_tup' ht
    refine dss_cons (ds_if (b := false) (PTD.eq (ptd_not (ptd_val (pd_isTup B (pdv 0)))) rfl) (fun hb => nomatch hb) (fun _ => dss_nil ?_))
    refine dss_cons (ds_for (fun i ρ M => M = m0 ∧ i ≤ l.length ∧ (∃ last s2, ρ = [.d (.tuple l), .d (.str last), s2] ∧ goodTo last (l.drop i) = goodTo "" l)) PassesOwn.never rfl (pid_tup (pdv 0)) ⟨rfl, Nat.zero_le _, "", .u, rfl, rfl⟩ ?_ ?_)
    · rintro i d ρ M hi ⟨rfl, _, last, s2, rfl, hg⟩
      have hil : i < l.length := (List.getElem?_eq_some_iff.mp hi).1
      have hdm := List.mem_of_getElem? hi
      have hdo := hm d hdm
      have hdr : l.drop i = d :: l.drop (i + 1) := by
        rw [List.drop_eq_getElem_cons hil]
        congr 1
        rw [List.getElem?_eq_getElem hil] at hi
        exact Option.some.inj hi
      rw [hdr] at hg
      refine ⟨_, [2], pgd_name 2 sc_law_is_book.nd, ?_⟩
      have fin : ∀ b, goodTo last (d :: l.drop (i + 1)) = b → isBookD (.tuple l) = b := fun b q => by rw [← q, hg]; exact (good_book l).symm
      by_cases hp : isPairD d = true
      · obtain ⟨k, x, rfl⟩ := pair_form hp
        have hp2 : isKeyD (.str k) = true ∧ isWorthD (.int x) = true := by
          have : (isKeyD (.str k) && isWorthD (.int x)) = true := hp
          rwa [Bool.and_eq_true] at this
        obtain ⟨_, m', rfl, hm'⟩ := okD_tup' hdo
        refine dss_cons (ds_if (b := false) (PTD.eq (PWD.pt (pwd_or (ptd_not (ptd_val (pd_isTup B (pdv 2)))) (fun _ => pwd_or (ptd_neI (pd_lenT (by rfl) B.len (pdv 2)) pd_int) (fun _ => pwd_or (ptd_not (ptd_val (pd_call hk hr (by rfl) (pds_cons (pd_ixT (pdv 2) pd_int (atI_0 _ _)) pds_nil) ⟨.str k, m', rfl, hm' _ (by simp), by omega, rfl⟩))) (fun _ => pwd_or1 (ptd_not (ptd_val (pd_call hw hr (by rfl) (pds_cons (pd_ixT (pdv 2) pd_int (atI_1 _ _ _)) pds_nil) ⟨.int x, m', rfl, hm' _ (by simp), by omega, rfl⟩)))))))) (by rw [hp2.1, hp2.2]; rfl)) (fun hb => nomatch hb) (fun _ => dss_nil ?_))
        refine dss_cons (ds_if (ptd_cmp op_le_str rd_leS (pd_ixT (pdv 2) pd_int (atI_0 _ _)) (pdv 1)) (fun hb => ?_) (fun hb => dss_nil ?_))
        · refine dss_one (ds_ret pd_bl ?_)
          show Sl.d (.bool false) = Sl.d (.bool (isBookD (.tuple l)))
          rw [fin false]
          show (isPairD _ && (ltS last k && _)) = false
          rw [show ltS last k = false from not_t hb]; simp
        · refine dss_one (ds_set 1 sc_law_is_book.nd (pd_ixT (pdv 2) pd_int (atI_0 _ _)) ⟨rfl, hil, k, _, rfl, ?_⟩)
          rw [← hg]
          show _ = (isPairD _ && (ltS last k && _))
          rw [hp, show ltS last k = true from not_f hb]; rfl
      · have hp : isPairD d = false := by cases q : isPairD d; rfl; exact absurd q hp
        have fin0 : isBookD (.tuple l) = false := fin false (by
          show (isPairD d && _) = false
          rw [hp]; rfl)
        refine dss_cons (ds_if (b := true) ?_ (fun _ => dss_one (ds_ret pd_bl (by
          show Sl.d (.bool false) = Sl.d (.bool (isBookD (.tuple l)))
          rw [fin0]))) (fun hb => nomatch hb))
        by_cases hT2 : ∃ r, d = .tuple r
        · obtain ⟨r, rfl⟩ := hT2
          obtain ⟨_, m', rfl, hm'⟩ := okD_tup' hdo
          by_cases h2 : ∃ a b, r = [a, b]
          · obtain ⟨a, b, rfl⟩ := h2
            have hp' : (isKeyD a && isWorthD b) = false := hp
            exact PTD.eq (PWD.pt (pwd_or (ptd_not (ptd_val (pd_isTup B (pdv 2)))) (fun _ => pwd_or (ptd_neI (pd_lenT (by rfl) B.len (pdv 2)) pd_int) (fun _ => pwd_or (ptd_not (ptd_val (pd_call hk hr (by rfl) (pds_cons (pd_ixT (pdv 2) pd_int (atI_0 _ _)) pds_nil) ⟨a, m', rfl, hm' _ (by simp), by omega, rfl⟩))) (fun _ => pwd_or1 (ptd_not (ptd_val (pd_call hw hr (by rfl) (pds_cons (pd_ixT (pdv 2) pd_int (atI_1 _ _ _)) pds_nil) ⟨b, m', rfl, hm' _ (by simp), by omega, rfl⟩)))))))) (by
              show (false || (false || (!isKeyD a || !isWorthD b))) = true
              rw [← Bool.not_and, hp']; rfl)
          · have ne : ¬ ((r.length : Int) = 2) := fun q => h2 (by
              have q : r.length = 2 := by omega
              match r, q with
              | [a, b], _ => exact ⟨a, b, rfl⟩)
            exact PTD.eq (PWD.pt (pwd_or (ptd_not (ptd_val (pd_isTup B (pdv 2)))) (fun _ => pwd_or (v := false) (ptd_neI (pd_lenT (by rfl) B.len (pdv 2)) pd_int) (fun q => absurd (of_decide_eq_true (not_f q)) ne)))) (by rw [decide_eq_false ne]; rfl)
        · refine PTD.eq (PWD.pt (pwd_or (v := false) (ptd_not (ptd_val (pd_isTup B (pdv 2)))) (fun q => ?_))) ?_
          · cases d <;> first | exact absurd ⟨_, rfl⟩ hT2 | cases q
          · cases d <;> first | exact absurd ⟨_, rfl⟩ hT2 | rfl
    · rintro ρ M ⟨rfl, _, last, s2, rfl, hg⟩
      refine dss_one (ds_ret pd_bl ?_)
      show Sl.d (.bool true) = Sl.d (.bool (isBookD (.tuple l)))
      rw [← good_book l, ← hg, List.drop_length]; rfl
  · refine dss_cons (ds_if (b := true) (PTD.eq (ptd_not (ptd_val (pd_isTup B (pdv 0)))) ?_) (fun _ => dss_one (ds_ret pd_bl ?_)) (fun hb => nomatch hb))
    · cases t <;> first | exact absurd ⟨_, rfl⟩ hT | rfl
    · cases t <;> first | exact absurd ⟨_, rfl⟩ hT | rfl
theorem sc_law_is_change : FnScope ["thing", "sizes"] ["thing"] (defScope S_law_is_change) := ⟨rfl, rfl, rfl, by decide +kernel, rfl, by decide +kernel, by decide +kernel⟩
theorem ok_law_is_change (h : Dfn K mg "_law_is_change" S_law_is_change ["thing"]) (B : Bt mg) (hk : DefD P w K mg base 1 "_law_is_key" ["thing"] (FB1 isKeyD)) (hw : DefD P w K mg base 1 "_law_is_worth" ["thing"] (FB1 isWorthD)) : DefD P w K mg base 2 "_law_is_change" ["thing"] (FB1 isChangeD) := by
  refine def_okD h sc_law_is_change (fun ds d ⟨t, n, e, _⟩ => by rw [e]; rfl) fun f cdv A outer s H E ds d hr hF => ?_
  obtain ⟨t, n, rfl, ht, hn, rfl⟩ := hF
  by_cases hT : ∃ l, t = .tuple l
  · obtain ⟨l, rfl⟩ := hT
    obtain ⟨hl, m, rfl, hm⟩ := okD_tup' ht
    have sh := shaped_ok ht (by omega)
    match l with
    | [] =>
      refine dss_cons (ds_if (b := true) (PTD.eq (PWD.pt (pwd_or (ptd_not (ptd_val (pd_isTup B (pdv 0)))) (fun _ => pwd_or (v := false) (ptd_eq hr.units (pdv 0) (pd_tup pds_nil) sh rfl) (fun q => by cases q)))) rfl) (fun _ => dss_one (ds_ret pd_bl rfl)) (fun hb => nomatch hb))
    | x :: r =>
      have hx := hm x (by simp)
      by_cases hs : isStrD x = true
      · obtain ⟨w, rfl⟩ : ∃ w, x = .str w := by
          cases x <;> first | exact ⟨_, rfl⟩ | cases hs
        refine dss_cons (ds_if (b := false) (PTD.eq (PWD.pt (pwd_or (ptd_not (ptd_val (pd_isTup B (pdv 0)))) (fun _ => pwd_or (ptd_eq hr.units (pdv 0) (pd_tup pds_nil) sh rfl) (fun _ => pwd_or1 (ptd_not (ptd_val (pd_isStr B (pd_ixT (pdv 0) pd_int (atI_0 _ _))))))))) rfl) (fun hb => nomatch hb) (fun _ => dss_nil ?_))
        refine dss_cons (ds_setN 1 sc_law_is_change.nd (mo := dctF PyData.int (mergeA sizesK)) (pn_disp (f := PyData.int) (kvs := sizesK) (.cons pd_str pd_int (.cons pd_str pd_int (.cons pd_str pd_int (.cons pd_str pd_int (.cons pd_str pd_int .nil))))) (fun z => nomatch z) (by decide)) fun a ha => ?_)
        have hget : ∀ (b c : Expr) (p1 p2 p3 : Pos), True := fun _ _ _ _ _ => trivial
        by_cases hsz : ((.str w :: r : List D).length : Int) = sizeW w
        · -- the word is known, and so long it is
          obtain ⟨y, r, rfl⟩ : ∃ y q, r = y :: q := by
            match r with
            | [] =>
              exfalso
              have := sizeW_cases w
              simp only [List.length_cons, List.length_nil] at hsz
              omega
            | y :: q => exact ⟨y, q, rfl⟩
          have hy := hm y (by simp)
          refine dss_cons (ds_if (b := !isKeyD y) (PTD.eq (PWD.pt (pwd_or (ptd_neI (pd_lenT (by rfl) B.len (pdv 0)) (PD.eq (pd_get2 (hu_of hr) (pov 1 rfl mup_same) (pd_ixT (pdv 0) pd_int (atI_0 _ _)) pd_int ⟨rfl, rfl, rfl, rfl⟩) (sizeW_get w))) (fun _ => pwd_or1 (ptd_not (ptd_val (pd_call hk hr (by rfl) (pds_cons (pd_ixT (pdv 0) pd_int (atI_1 _ y _)) pds_nil) ⟨y, m, rfl, hy, by omega, rfl⟩)))))) (by rw [decide_eq_true hsz]; rfl)) (fun hb => ?_) (fun hb => dss_nil ?_))
          · refine dss_one (ds_ret pd_bl ?_)
            show Sl.d (.bool false) = Sl.d (.bool (isChangeD (.tuple (.str w :: y :: r))))
            rw [change_key (not_t hb)]
          · have hb := not_f hb
            refine dss_cons (ds_if (ptd_eqS (pd_ixT (pdv 0) pd_int (atI_0 _ _)) pd_str) (fun he => ?_) (fun he => dss_nil ?_))
            · have he := of_decide_eq_true he
              subst he
              obtain ⟨z, rfl⟩ : ∃ z, r = [z] := by
                have e3 : sizeW "move" = 3 := by decide +kernel
                rw [e3] at hsz
                simp only [List.length_cons] at hsz
                match r with
                | [] => simp at hsz
                | [z] => exact ⟨z, rfl⟩
                | _ :: _ :: _ => simp only [List.length_cons] at hsz; omega
              refine dss_one (ds_ret (pd_call hk hr (by rfl) (pds_cons (pd_ixT (pdv 0) pd_int (atI_2 _ _ z _)) pds_nil) ⟨z, m, rfl, hm z (by simp), by omega, rfl⟩) ?_)
              show Sl.d (.bool (isKeyD z)) = Sl.d (.bool (isChangeD (.tuple [.str "move", y, z])))
              rw [change_three _ _ _ hb]
              rw [show (decide (("move" : Str) = "put") || decide (("move" : Str) = "add") || decide (("move" : Str) = "keep")) = false by decide +kernel]
              simp
            · have he := of_decide_eq_false he
              by_cases hd : w = "drop"
              · subst hd
                have e3 : sizeW "drop" = 2 := by decide +kernel
                rw [e3] at hsz
                have hr0 : r = [] := by
                  match r with
                  | [] => rfl
                  | _ :: _ => simp only [List.length_cons] at hsz; omega
                subst hr0
                refine dss_one (ds_ret (d := .bool true) (PD.eq (pd_or (v := false) (pd_cmp op_eq rd_eqStr (pd_ixT (pdv 0) pd_int (atI_0 _ _)) pd_str) (fun q => by cases q)) rfl) ?_)
                show Sl.d (.bool true) = Sl.d (.bool (isChangeD (.tuple [.str "drop", y])))
                rw [change_two _ _ hb]; rfl
              · have h3 := sizeW_other w hsz hd he
                obtain ⟨z, rfl⟩ : ∃ z, r = [z] := by
                  rw [h3.1] at hsz
                  match r with
                  | [] => simp at hsz
                  | [z] => exact ⟨z, rfl⟩
                  | _ :: _ :: _ => simp only [List.length_cons] at hsz; omega
                refine dss_one (ds_ret (pd_or (pd_cmp op_eq rd_eqStr (pd_ixT (pdv 0) pd_int (atI_0 _ _)) pd_str) (fun _ => pd_one (pd_call hw hr (by rfl) (pds_cons (pd_ixT (pdv 0) pd_int (atI_2 _ _ z _)) pds_nil) ⟨z, m, rfl, hm z (by simp), by omega, rfl⟩))) ?_)
                show Sl.d (.bool (decide (w = "drop") || isWorthD z)) = Sl.d (.bool (isChangeD (.tuple [.str w, y, z])))
                rw [change_three _ _ _ hb, decide_eq_false hd, decide_eq_false he, h3.2]
                simp
        · refine dss_cons (ds_if (b := true) (PTD.eq (PWD.pt (pwd_or (v := false) (ptd_neI (pd_lenT (by rfl) B.len (pdv 0)) (PD.eq (pd_get2 (hu_of hr) (pov 1 rfl mup_same) (pd_ixT (pdv 0) pd_int (atI_0 _ _)) pd_int ⟨rfl, rfl, rfl, rfl⟩) (sizeW_get w))) (fun q => absurd (of_decide_eq_true (not_f q)) hsz))) (by rw [decide_eq_false hsz]; rfl)) (fun _ => dss_one (ds_ret pd_bl ?_)) (fun hb => nomatch hb))
          show Sl.d (.bool false) = Sl.d (.bool (isChangeD (.tuple (.str w :: r))))
          rw [sizeW_no w r hsz]
      · have hs : isStrD x = false := by cases q : isStrD x; rfl; exact absurd q hs
        refine dss_cons (ds_if (b := true) (PTD.eq (PWD.pt (pwd_or (ptd_not (ptd_val (pd_isTup B (pdv 0)))) (fun _ => pwd_or (ptd_eq hr.units (pdv 0) (pd_tup pds_nil) sh rfl) (fun _ => pwd_or1 (ptd_not (ptd_val (pd_isStr B (pd_ixT (pdv 0) pd_int (atI_0 x _))))))))) (by rw [hs]; rfl)) (fun _ => dss_one (ds_ret pd_bl ?_)) (fun hb => nomatch hb))
        show Sl.d (.bool false) = Sl.d (.bool (isChangeD (.tuple (x :: r))))
        rw [change_noword r hs]
  · refine dss_cons (ds_if (b := true) (PTD.eq (PWD.pt (pwd_or (v := false) (ptd_not (ptd_val (pd_isTup B (pdv 0)))) (fun q => ?_))) ?_) (fun _ => dss_one (ds_ret pd_bl ?_)) (fun hb => nomatch hb))
    · cases t <;> first | exact absurd ⟨_, rfl⟩ hT | cases q
    · cases t <;> first | exact absurd ⟨_, rfl⟩ hT | rfl
    · cases t <;> first | exact absurd ⟨_, rfl⟩ hT | rfl
theorem sc_law_places_in : FnScope ["bent_one", "bent_way", "bent_ways", "bent_at", "bent_part"] ["bent_one", "bent_way"] (defScope S_law_places_in) := ⟨rfl, rfl, rfl, by decide +kernel, rfl, by decide +kernel, by decide +kernel⟩
theorem all_law_places_in (h : Dfn K mg "_law_places_in" S_law_places_in ["bent_one", "bent_way"]) (B : Bt mg) : ∀ n, DefD P w K mg base (n + 1) "_law_places_in" ["bent_one", "bent_way"] (FPlaces n) := by
  have hz : sizeLine = 16777216 := rfl
  intro n
  induction n with
  | zero =>
    refine def_okD h sc_law_places_in (fun ds d ⟨o, wy, e, _⟩ => by rw [e]; rfl) fun f cdv A outer s H E ds d hr hF => ?_
    obtain ⟨one, way, rfl, ho, hn, hw, rfl⟩ := hF
    have hT : isTupD one = false := by
      rcases okB_kinds ho with ⟨i, rfl, _⟩ | ⟨s, rfl, _⟩ | ⟨xs, m, rfl, e, _⟩
      · rfl
      · rfl
      · cases e
    refine dss_cons (ds_set 2 sc_law_places_in.nd (pd_lst (pds_cons (pdv 1) pds_nil)) ?_)
    refine dss_cons (ds_if (b := false) (PTD.eq (ptd_val (pd_isTup B (pdv 0))) hT) (fun h => nomatch h) (fun _ => dss_nil ?_))
    exact dss_one (ds_ret (pdv 2) rfl)
  | succ n ih =>
    refine def_okD h sc_law_places_in (fun ds d ⟨o, wy, e, _⟩ => by rw [e]; rfl) fun f cdv A outer s H E ds d hr hF => ?_
    obtain ⟨one, way, rfl, ho, hn, hw, rfl⟩ := hF
    refine dss_cons (ds_set 2 sc_law_places_in.nd (pd_lst (pds_cons (pdv 1) pds_nil)) ?_)
    rcases okB_kinds ho with ⟨i, rfl, _⟩ | ⟨s, rfl, _⟩ | ⟨xs, m, rfl, e, hl, hx⟩
    · exact dss_cons (ds_if (b := false) (PTD.eq (ptd_val (pd_isTup B (pdv 0))) rfl) (fun h => nomatch h) (fun _ => dss_nil (dss_one (ds_ret (pdv 2) rfl))))
    · exact dss_cons (ds_if (b := false) (PTD.eq (ptd_val (pd_isTup B (pdv 0))) rfl) (fun h => nomatch h) (fun _ => dss_nil (dss_one (ds_ret (pdv 2) rfl))))
    · cases e
      have hb : 101 ^ n ≤ 101 ^ 2 := Nat.pow_le_pow_right (by decide) (by omega)
      refine dss_cons (ds_if (b := true) (PTD.eq (ptd_val (pd_isTup B (pdv 0))) rfl) (fun _ => dss_one (ds_for (fun i ρ M => M = m0 ∧ ∃ s3 s4, ρ = [.d (.tuple xs), .d (dWay way), .d (.list ((way :: ((List.range i).map fun j => places n (xs.getD j .none) (way ++ [j])).flatten).map dWay)), s3, s4]) PassesOwn.never rfl (pid_enumT (by rfl) B.enumerate (pdv 0)) ⟨rfl, .u, .u, rfl⟩ ?_ ?_)) (fun h => nomatch h))
      · rintro i d ρ M hi ⟨rfl, s3, s4, rfl⟩
        obtain ⟨x, hx', rfl⟩ := enumD_get hi
        have hi' : i < xs.length := (List.getElem?_eq_some_iff.mp hx').1
        have ex : xs.getD i .none = x := by rw [List.getD_eq_getElem?_getD, hx']; rfl
        have ox : okB n x := hx x (List.mem_of_getElem? hx')
        have l1 := flat_len (fun j => places n (xs.getD j .none) (way ++ [j])) (101 ^ n) i fun j hj => places_len (hx _ (getD_memD (by omega)))
        have l2 := places_len (way := way ++ [i]) ox
        have l3 : i * 101 ^ n ≤ 100 * 101 ^ n := Nat.mul_le_mul_right _ (by omega)
        refine ⟨_, _, pgd_tup (n := 2) rfl (pgds_cons (pgd_name 3 sc_law_places_in.nd) (pgds_cons (pgd_name 4 sc_law_places_in.nd) pgds_nil)), ?_⟩
        refine dss_one (ds_set 2 sc_law_places_in.nd (pd_catL (pdv 2) (pd_call ih hr (by rfl) (pds_cons (pdv 4) (pds_cons (PD.eq (d' := dWay (way ++ [i])) (pd_catT (pdv 1) (pd_tup (pds_cons (pdv 3) pds_nil)) ?_) ?_) pds_nil)) ⟨x, way ++ [i], rfl, ox, by omega, by rw [List.length_append]; simp only [List.length_cons, List.length_nil]; omega, rfl⟩) ?_) ⟨rfl, .d (.int (i : Nat)), .d x, ?_⟩)
        · rw [List.length_map]; simp only [List.length_cons, List.length_nil]; omega
        · unfold dWay; rw [List.map_append]; rfl
        · rw [List.length_map, List.length_map, List.length_cons]; omega
        · have e : ((way :: ((List.range (i + 1)).map fun j => places n (xs.getD j .none) (way ++ [j])).flatten).map dWay) = ((way :: ((List.range i).map fun j => places n (xs.getD j .none) (way ++ [j])).flatten).map dWay) ++ (places n x (way ++ [i])).map dWay := by
            rw [List.range_succ, List.map_append, List.flatten_append, ← List.map_append, List.cons_append]
            simp [hx']
          rw [e]; rfl
      · rintro ρ M ⟨rfl, s3, s4, rfl⟩
        rw [enumD_len]
        exact dss_one (ds_ret (pdv 2) rfl)
theorem ok_law_places_in (h : Dfn K mg "_law_places_in" S_law_places_in ["bent_one", "bent_way"]) (B : Bt mg) : DefD P w K mg base 3 "_law_places_in" ["bent_one", "bent_way"] (FPlaces 2) := all_law_places_in h B 2
theorem sc_law_otherwise : FnScope ["bent_one", "bent_number", "bent_some"] ["bent_one", "bent_number"] (defScope S_law_otherwise) := ⟨rfl, rfl, rfl, by decide +kernel, rfl, by decide +kernel, by decide +kernel⟩
theorem ok_law_otherwise (h : Dfn K mg "_law_otherwise" S_law_otherwise ["bent_one", "bent_number"]) (B : Bt mg) : DefD P w K mg base 1 "_law_otherwise" ["bent_one", "bent_number"] FOther := by
  have hz : sizeLine = 16777216 := rfl
  refine def_okD h sc_law_otherwise (fun ds d ⟨o, n, k, e, _⟩ => by rw [e]; rfl) fun f cdv A outer s H E ds d hr hF => ?_
  obtain ⟨one, n, k, rfl, ho, hd⟩ := hF
  rcases okB_kinds ho with ⟨i, rfl, hi⟩ | ⟨s, rfl, h1, h2⟩ | ⟨xs, m, rfl, e, hl, hx⟩
  · refine dss_cons (ds_if (b := false) (PTD.eq (ptd_val (pd_isTup B (pdv 0))) rfl) (fun h => nomatch h) (fun _ => dss_nil ?_))
    refine dss_cons (ds_if (b := false) (PTD.eq (ptd_val (pd_isBool B (pdv 0))) rfl) (fun h => nomatch h) (fun _ => dss_nil ?_))
    refine dss_cons (ds_if (b := true) (PTD.eq (ptd_val (pd_isInt B (pdv 0))) rfl) (fun _ => ?_) (fun h => nomatch h))
    refine dss_cons (ds_set 2 sc_law_otherwise.nd (pd_lst (pds_cons pd_bl (pds_cons pd_non (pds_cons (pd_strI (by rfl) B.str (pdv 0) (numT_log hi)) (pds_cons (pd_tup (pds_cons (pdv 0) pds_nil)) pds_nil))))) ?_)
    exact dss_one (ds_ret (pd_ixL (pd_catL (pdv 2) (pd_lst (pds_cons (pd_sub (pd_neg pd_int) (pdv 0)) pds_nil)) (Nat.le_of_ble_eq_true rfl)) (pd_mod (pdv 1) pd_int (by decide)) hd) rfl)
  · refine dss_cons (ds_if (b := false) (PTD.eq (ptd_val (pd_isTup B (pdv 0))) rfl) (fun h => nomatch h) (fun _ => dss_nil ?_))
    refine dss_cons (ds_if (b := false) (PTD.eq (ptd_val (pd_isBool B (pdv 0))) rfl) (fun h => nomatch h) (fun _ => dss_nil ?_))
    refine dss_cons (ds_if (b := false) (PTD.eq (ptd_val (pd_isInt B (pdv 0))) rfl) (fun h => nomatch h) (fun _ => dss_nil ?_))
    exact dss_one (ds_ret (pd_ixL (pd_lst (pds_cons pd_non (pds_cons (pd_tup (pds_cons (pdv 0) pds_nil)) (pds_cons (pd_lst (pds_cons (pdv 0) pds_nil)) (pds_cons pd_str (pds_cons pd_int pds_nil)))))) (pd_mod (pdv 1) pd_int (by decide)) hd) rfl)
  · refine dss_cons (ds_if (b := true) (PTD.eq (ptd_val (pd_isTup B (pdv 0))) rfl) (fun _ => ?_) (fun h => nomatch h))
    refine dss_cons (ds_set 2 sc_law_otherwise.nd (d := .list [.list xs, .list xs, .tuple (xs ++ xs.take 1)]) (pd_lst (pds_cons (pd_listT (by rfl) B.list (pdv 0)) (pds_cons (pd_listT (by rfl) B.list (pdv 0)) (pds_cons (pd_catT (pdv 0) (PD.eq (d' := .tuple (xs.take 1)) (pd_slT (pdv 0) pod_none (pod_some pd_int)) (congrArg PyData.tuple (cut_take xs 1))) ?_) pds_nil)))) ?_)
    · rw [List.length_take]; omega
    exact dss_one (ds_ret (pd_ixL (pd_catL (pdv 2) (pd_lst (pds_cons (PD.eq (d' := .tuple (xs.drop 1)) (pd_slT (pdv 0) (pod_some pd_int) pod_none) (congrArg PyData.tuple (cut_drop xs 1))) (pds_cons (pd_lst (pds_cons (pdv 0) pds_nil)) pds_nil))) (Nat.le_of_ble_eq_true rfl)) (pd_mod (pdv 1) pd_int (by decide)) hd) rfl)
theorem sc_law_put_at : FnScope ["bent_one", "bent_way", "bent_by", "bent_at", "bent_part"] ["bent_one", "bent_way", "bent_by"] (defScope S_law_put_at) := ⟨rfl, rfl, rfl, by decide +kernel, rfl, by decide +kernel, by decide +kernel⟩
theorem all_law_put_at (h : Dfn K mg "_law_put_at" S_law_put_at ["bent_one", "bent_way", "bent_by"]) : ∀ n, DefF P w K mg base (n + 3) 2 "_law_put_at" ["bent_one", "bent_way", "bent_by"] (GPut n) := by
  have hz : sizeLine = 16777216 := rfl
  intro n
  induction n with
  | zero =>
    refine def_okF h sc_law_put_at (fun F ds d ⟨o, wy, e, _⟩ => by rw [e]; rfl) fun g cdv A outer s H f c q F ds d C hr hG => ?_
    obtain ⟨one, way, rfl, hw, _, hP⟩ := hG
    obtain rfl : way = [] := List.eq_nil_of_length_eq_zero (by omega)
    exact dssg_cons (dsg_if (b := true) (PTD.eq (ptd_eq hr.units (pdv 1) (pd_tup pds_nil) rfl rfl) rfl) (fun _ => dssg_one (dsg_ret (pdg_lam 2 C hr (pdv 0) hP) rfl)) (fun h => nomatch h))
  | succ n ih =>
    refine def_okF h sc_law_put_at (fun F ds d ⟨o, wy, e, _⟩ => by rw [e]; rfl) fun g cdv A outer s H f c q F ds d C hr hG => ?_
    obtain ⟨one, way, rfl, hw, hn, hP⟩ := hG
    cases way with
    | nil => exact dssg_cons (dsg_if (b := true) (PTD.eq (ptd_eq hr.units (pdv 1) (pd_tup pds_nil) rfl rfl) rfl) (fun _ => dssg_one (dsg_ret (pdg_lam 2 C (hr.mono (by omega)) (pdv 0) hP) rfl)) (fun h => nomatch h))
    | cons i way =>
      cases one with
      | tuple xs =>
        obtain ⟨hl, x, y, hx, hy, rfl⟩ := hP
        rw [List.length_cons] at hw
        have hi : i < xs.length := (List.getElem?_eq_some_iff.mp hx).1
        refine dssg_cons (dsg_if (b := false) (PTD.eq (ptd_eq hr.units (pdv 1) (pd_tup pds_nil) (shaped_ok (ok_way (by rw [List.length_cons]; omega)) (by decide)) rfl) rfl) (fun h => nomatch h) (fun _ => DSs.g (dss_nil ?_)))
        refine dssg_cons (DS.g (ds_set 3 sc_law_put_at.nd (d := .int (i : Nat)) (pd_ixT (pdv 1) pd_int (atI_0 _ _)) ?_))
        refine dssg_cons (dsg_set 4 sc_law_put_at.nd (d := y) (pdg_rec 2 C ih hr (by rfl) (pd_ixT (pdv 0) (pdv 3) (atI_get hx rfl)) (PD.eq (d' := dWay way) (pd_slT (pdv 1) (pod_some pd_int) pod_none) (congrArg PyData.tuple (cut_drop _ 1))) ⟨x, way, rfl, by omega, by omega, hy⟩) ?_)
        refine dssg_one (DS.g (ds_ret (pd_catT (pd_catT (PD.eq (d' := .tuple (xs.take i)) (pd_slT (pdv 0) pod_none (pod_some (pdv 3))) (congrArg PyData.tuple (cut_take _ i))) (pd_tup (pds_cons (pdv 4) pds_nil)) ?_) (PD.eq (d' := .tuple (xs.drop (i + 1))) (pd_slT (pdv 0) (pod_some (pd_add (pdv 3) pd_int)) pod_none) (congrArg PyData.tuple (cut_drop _ (i + 1)))) ?_) rfl))
        · rw [List.length_take]; simp only [List.length_cons, List.length_nil]; omega
        · rw [List.length_append, List.length_take, List.length_drop]; simp only [List.length_cons, List.length_nil]; omega
      | none => exact hP.elim
      | bool _ => exact hP.elim
      | int _ => exact hP.elim
      | str _ => exact hP.elim
      | list _ => exact hP.elim
      | dict _ => exact hP.elim
theorem ok_law_put_at (h : Dfn K mg "_law_put_at" S_law_put_at ["bent_one", "bent_way", "bent_by"]) : DefF P w K mg base 5 2 "_law_put_at" ["bent_one", "bent_way", "bent_by"] (GPut 2) := all_law_put_at h 2
theorem sc_law_spoilt : FnScope ["thing", "number", "deep", "bent_ways", "bent_way"] ["thing", "number", "deep"] (defScope S_law_spoilt) := ⟨rfl, rfl, rfl, by decide +kernel, rfl, by decide +kernel, by decide +kernel⟩
open LamX in
theorem ok_law_spoilt {f c T : Addr} {oc : Value} {od an : Option Addr} {osl : Array (Option Value)} {kV doc pm ct : Value} (lk : K.lookup f = some ⟨oc, od, .func (PySem.W.fnOf "_law_spoilt" "_law_spoilt" (defArgs S_law_spoilt) (defBody S_law_spoilt) (defScope S_law_spoilt) .none kV doc pm an (.ref c) ct), osl⟩) (hcd : PySem.W.codeIn K (.ref c) "_law_spoilt" = true) (hm : mg "_law_spoilt" = some (.ref f)) (hk : PySem.W.keepIn K (.ref f) = true) (hb : Binds K (PySem.W.fnOf "_law_spoilt" "_law_spoilt" (defArgs S_law_spoilt) (defBody S_law_spoilt) (defScope S_law_spoilt) .none kV doc pm an (.ref c) ct) ["thing", "number", "deep"] [])
    (TB : TabB base mg c T) (B : Bt mg) (hp : DefD P w K mg base 3 "_law_places_in" ["bent_one", "bent_way"] (FPlaces 2)) (hput : DefF P w K mg base 5 2 "_law_put_at" ["bent_one", "bent_way", "bent_by"] (GPut 2)) (hoth : DefD P w K mg base 1 "_law_otherwise" ["bent_one", "bent_number"] FOther) :
    DefM P w K mg base 6 "_law_spoilt" ["thing", "number", "deep"] (FSpoilt9 T) := by
  refine def_okMT lk hcd hm hk hb sc_law_spoilt (fun ss M Φ ⟨one, n, j, q, _⟩ => by rw [q]; rfl) fun A' outer s H E ss M Φ hr hF => ?_
  obtain ⟨one, n, j, rfl, ho, hT, k⟩ := hF
  have hpos := places_pos 2 one []
  have hlen : (0 : Int) < (((places 2 one []).map dWay).length : Int) := by rw [List.length_map]; omega
  have q0 := Int.emod_nonneg n (show (((places 2 one []).map dWay).length : Int) ≠ 0 by omega)
  have q1 := Int.emod_lt_of_pos n hlen
  obtain ⟨dw, hdw, hat⟩ := atI_some q0 q1
  obtain ⟨wy, hwy, rfl⟩ := List.mem_map.mp hdw
  obtain ⟨t, e, ht, hle⟩ := places_lead wy hwy
  rw [List.nil_append] at e
  subst e
  obtain ⟨d, hP, hd⟩ := put_ok (F := fun x d => ∃ k, okB k x ∧ atI (otherL x) (n / 4096 % 5) = some d) (m := 0) (fun k x hx => by
    obtain ⟨y, _, hy⟩ := atI_some (l := otherL x) (i := n / 4096 % 5) (by omega) (by rw [otherL_len]; omega)
    exact ⟨y, k, hx, hy⟩) (fun k x y hx ⟨k', hx', hy⟩ => other_ok hx y (atI_mem (by omega) (by rw [otherL_len]; omega) hy)) wy ho hle
  refine dss_cons (ds_set 3 sc_law_spoilt.nd (pd_call hp (hr.mono (by decide)) (by rfl) (pds_cons (pdv 0) (pds_cons (PD.eq (d' := dWay []) (pd_tup pds_nil) rfl) pds_nil)) ⟨one, [], rfl, ho, by decide, by decide, rfl⟩) ?_)
  refine dss_cons (ds_set 4 sc_law_spoilt.nd (pd_ixL (pdv 3) (pd_mod (pdv 1) (pd_lenL (by rfl) B.len (pdv 3)) hlen) hat) ?_)
  exact dss_one (ds_retX (px_hand (kl := 1) (j := 1) (b := "number") (a := "bent_part") (n := n) hput hr (by rfl) TB rfl hT (lamS1_by (sc := defScope S_law_spoilt) (by decide +kernel)) (pdv 0) (pdv 4) (fun A1 outer1 s1 H1 f1 c1 x d1 hr1 hF => pd_call hoth hr1 (by rfl) (pds_cons (pdv 0) (pds_cons (pd_div (pdv 1) pd_int (by decide)) pds_nil)) (let ⟨k, hx, hy⟩ := hF; ⟨x, n / 4096, k, rfl, hx, hy⟩)) ⟨one, wy, rfl, ht, by decide, hP⟩ (k d hd)))
theorem sc_law_once : FnScope ["script", "number", "thing", "other", "long", "far", "one", "found"] ["script"] (defScope S_law_once) := ⟨rfl, rfl, rfl, by decide +kernel, rfl, by decide +kernel, by decide +kernel⟩
theorem ok_law_once {T : Addr} (h : Dfn K mg "_law_once" S_law_once ["script"]) (B : Bt mg)
    (hm : DefD P w K mg base 2 "_law_mixed" ["script", "k"] FMixed) (hb : DefD P w K mg base 2 "_law_book" ["number"] FBook) (hc : DefD P w K mg base 1 "_law_change" ["number", "many"] FChange) (hs : DefM P w K mg base 6 "_law_spoilt" ["thing", "number", "deep"] (FSpoilt9 T))
    (h1 : DefD P w K mg base 3 "is_book" ["thing"] (FB1 isBookD)) (h2 : DefD P w K mg base 2 "_law_is_book" ["thing"] (FB1 isBookD)) (h3 : DefD P w K mg base 2 "is_change" ["thing"] (FB1 isChangeD)) (h4 : DefD P w K mg base 2 "_law_is_change" ["thing"] (FB1 isChangeD)) :
    DefM P w K mg base 7 "_law_once" ["script"] (FOnce T) := by
  refine def_okM h sc_law_once (fun ss M Φ ⟨ns, q, _⟩ => by rw [q]; rfl) fun f cdv A outer s H E ss M Φ hr hF => ?_
  obtain ⟨ns, rfl, hT, hΦ⟩ := hF
  have r1 : Room 1 (A.deeper (PyProof.Rows.envOfC "_law_once" (defScope S_law_once) s.heap.objs.size f cdv)) := hr.mono (by decide)
  have r2 : Room 2 (A.deeper (PyProof.Rows.envOfC "_law_once" (defScope S_law_once) s.heap.objs.size f cdv)) := hr.mono (by decide)
  have r3 : Room 3 (A.deeper (PyProof.Rows.envOfC "_law_once" (defScope S_law_once) s.heap.objs.size f cdv)) := hr.mono (by decide)
  have b0 := mixed_b ns 0
  have b2 := mixed_b ns 2
  -- what comes behind the spoiling
  have rest : ∀ t o, okD 6 t → okD 6 o → DSs (bCx P w K mg base ["script", "number", "thing", "other", "long", "far", "one", "found"] "_law_once" S_law_once f cdv A outer s H E) ((defBody S_law_once).drop 4) [.d (dInts ns), .d (.int (mixed ns 0)), .d t, .d o, .u, .u, .u, .u] M { nx := fun _ M' => Φ (.d .none) M', rt := Φ } := fun t o ht ho => by
    obtain ⟨lg, hlg, hol⟩ := long9 (mixed ns 0 / 64 % 3) (by omega) (by omega)
    refine dss_cons (ds_set 4 sc_law_once.nd (d := .str lg) (PD.eq (pd_slS pd_str pod_none (pod_some (pd_add pd_int (pd_mod (pd_div (pdv 1) pd_int (by decide)) pd_int (by decide)))) (by decide +kernel)) (by rw [hlg])) ?_)
    refine dss_cons (ds_set 5 sc_law_once.nd (pd_add pd_int (pd_mod (pd_div (pdv 1) pd_int (by decide)) pd_int (by decide))) ?_)
    have all : ∀ d ∈ [t, o, .tuple [.tuple [.str lg, .int (998 + mixed ns 0 / 256 % 3)]], .tuple [.str "put", .str lg, .int (998 + mixed ns 0 / 256 % 3)], .tuple [.str "move", .str "a", .str lg]], okD 6 d := by
      intro d hd
      simp only [List.mem_cons, List.not_mem_nil, or_false] at hd
      have l0 : ∀ n, okD n (.str lg) := fun n => okD_str' hol.1 (Nat.le_trans hol.2 (by decide))
      have w1 : ∀ n, okD n (.str "put") := fun n => okD_str' (by decide +kernel) (by decide +kernel)
      have w2 : ∀ n, okD n (.str "move") := fun n => okD_str' (by decide +kernel) (by decide +kernel)
      have w3 : ∀ n, okD n (.str "a") := fun n => okD_str' (by decide +kernel) (by decide +kernel)
      rcases hd with rfl | rfl | rfl | rfl | rfl
      · exact ht
      · exact ho
      · refine okD_tup (Nat.le_of_ble_eq_true rfl) fun d hd => ?_
        rw [List.mem_singleton.mp hd]
        refine okD_tup (Nat.le_of_ble_eq_true rfl) fun d hd => ?_
        simp only [List.mem_cons, List.not_mem_nil, or_false] at hd
        rcases hd with rfl | rfl
        · exact l0 _
        · exact okD_int
      · refine okD_tup (Nat.le_of_ble_eq_true rfl) fun d hd => ?_
        simp only [List.mem_cons, List.not_mem_nil, or_false] at hd
        rcases hd with rfl | rfl | rfl
        · exact w1 _
        · exact l0 _
        · exact okD_int
      · refine okD_tup (Nat.le_of_ble_eq_true rfl) fun d hd => ?_
        simp only [List.mem_cons, List.not_mem_nil, or_false] at hd
        rcases hd with rfl | rfl | rfl
        · exact w2 _
        · exact w3 _
        · exact l0 _
    refine dss_cons (ds_for (fun i ρ M' => M' = M ∧ ∃ s6 s7, ρ = [.d (dInts ns), .d (.int (mixed ns 0)), .d t, .d o, .d (.str lg), .d (.int (998 + mixed ns 0 / 256 % 3)), s6, s7]) PassesOwn.never rfl (pid_tup (pd_tup (pds_cons (pdv 2) (pds_cons (pdv 3) (pds_cons (pd_tup (pds_cons (pd_tup (pds_cons (pdv 4) (pds_cons (pdv 5) pds_nil))) pds_nil)) (pds_cons (pd_tup (pds_cons pd_str (pds_cons (pdv 4) (pds_cons (pdv 5) pds_nil)))) (pds_cons (pd_tup (pds_cons pd_str (pds_cons pd_str (pds_cons (pdv 4) pds_nil)))) pds_nil))))))) ⟨rfl, .u, .u, rfl⟩ ?_ ?_)
    · rintro i d ρ M' hi ⟨rfl, s6, s7, rfl⟩
      have hd := all d (List.mem_of_getElem? hi)
      have same : ∀ b : Bool, (!isBoolD (.bool b) || !PyData.eqv (.bool b) (.bool b)) = false := fun b => by cases b <;> rfl
      refine ⟨_, [6], pgd_name 6 sc_law_once.nd, ?_⟩
      refine dss_cons (ds_set 7 sc_law_once.nd (pd_call h1 r3 (by rfl) (pds_cons (pdv 6) pds_nil) ⟨d, 6, rfl, hd, by decide, rfl⟩) ?_)
      refine dss_cons (ds_if (b := false) (PTD.eq (PWD.pt (pwd_or (ptd_not (ptd_val (pd_isBool B (pdv 7)))) (fun _ => pwd_or1 (ptd_ne hr.units (pdv 7) (pd_call h2 r2 (by rfl) (pds_cons (pdv 6) pds_nil) ⟨d, 6, rfl, hd, by decide, rfl⟩) rfl rfl)))) (same _)) (fun hb => nomatch hb) (fun _ => dss_nil ?_))
      refine dss_cons (ds_set 7 sc_law_once.nd (pd_call h3 r2 (by rfl) (pds_cons (pdv 6) pds_nil) ⟨d, 6, rfl, hd, by decide, rfl⟩) ?_)
      refine dss_one (ds_if (b := false) (PTD.eq (PWD.pt (pwd_or (ptd_not (ptd_val (pd_isBool B (pdv 7)))) (fun _ => pwd_or1 (ptd_ne hr.units (pdv 7) (pd_call h4 r2 (by rfl) (pds_cons (pdv 6) pds_nil) ⟨d, 6, rfl, hd, by decide, rfl⟩) rfl rfl)))) (same _)) (fun hb => nomatch hb) (fun _ => dss_nil ⟨rfl, _, _, rfl⟩))
    · rintro ρ M' ⟨rfl, s6, s7, rfl⟩
      exact dss_one (ds_ret pd_bl hΦ)
  refine dss_cons (ds_set 1 sc_law_once.nd (pd_call hm r2 (by rfl) (pds_cons (pdv 0) (pds_cons pd_int pds_nil)) ⟨ns, 0, rfl, by decide, by decide, rfl⟩) ?_)
  refine dss_cons (ds_set 2 sc_law_once.nd (pd_call hb r2 (by rfl) (pds_cons (pd_call hm r2 (by rfl) (pds_cons (pdv 0) (pds_cons pd_int pds_nil)) ⟨ns, 1, rfl, by decide, by decide, rfl⟩) pds_nil) ⟨_, rfl, rfl⟩) ?_)
  refine dss_cons (ds_set 3 sc_law_once.nd (pd_call hc r1 (by rfl) (pds_cons (pd_call hm r2 (by rfl) (pds_cons (pdv 0) (pds_cons pd_int pds_nil)) ⟨ns, 2, rfl, by decide, by decide, rfl⟩) (pds_cons pd_int pds_nil)) ⟨_, 4, rfl, b2.1, by decide, by decide, rfl⟩) ?_)
  have l4 : abcdK.length = 4 := rfl
  have oB := okB_book (book_in (mixed ns 1)) (by have := (book_in (mixed ns 1)).len; omega)
  have oC := okB_chg (change_in (mixed ns 2) 4 b2.1 (by decide) (by decide))
  refine dss_cons (ds_if (ptd_gt (pd_mod (pdv 1) pd_int (by decide)) pd_int) (fun hb => ?_) (fun hb => dss_nil (rest _ _ (okD_le (okB_ok oB) (by decide)) (okD_le (okB_ok oC) (by decide)))))
  refine dss_cons (ds_setX 2 sc_law_once.nd (px_call hs hr (by rfl) (pxs_cons ((pdv 2).fx (pxs_cons ((pd_call hm r2 (by rfl) (pds_cons (pdv 0) (pds_cons pd_int pds_nil)) ⟨ns, 3, rfl, by decide, by decide, rfl⟩).fx (pxs_cons ((pd_mod (pd_div (pdv 1) pd_int (by decide)) pd_int (by decide)).fx (pxs_nil ⟨_, _, _, rfl, oB, hT, fun d1 k1 => ?_⟩)))))))))
  refine dss_one (ds_setX 3 sc_law_once.nd (px_call hs hr (by rfl) (pxs_cons ((pdv 3).fx (pxs_cons ((pd_call hm r2 (by rfl) (pds_cons (pdv 0) (pds_cons pd_int pds_nil)) ⟨ns, 4, rfl, by decide, by decide, rfl⟩).fx (pxs_cons ((pd_mod (pd_div (pdv 1) pd_int (by decide)) pd_int (by decide)).fx (pxs_nil ⟨_, _, _, rfl, oC, hT, fun d2 k2 => ?_⟩)))))))))
  exact rest _ _ (okD_le k1 (by decide)) (okD_le k2 (by decide))
theorem sc_law : FnScope ["script", "bent_turn", "bent_cell"] ["script"] (defScope S_law) := ⟨rfl, rfl, rfl, by decide +kernel, rfl, by decide +kernel, by decide +kernel⟩
open LamX in
theorem ok_law {f T : Addr} {oc cdv : Value} {od an : Option Addr} {osl : Array (Option Value)} {kV doc pm ct : Value} (lk : K.lookup f = some ⟨oc, od, .func (PySem.W.fnOf "law" "law" (defArgs S_law) (defBody S_law) (defScope S_law) .none kV doc pm an cdv ct), osl⟩) (hcd : PySem.W.codeIn K cdv "law" = true)
    (B : Bt mg) (honce : DefM P w K mg base 7 "_law_once" ["script"] (FOnce T)) :
    FnC P w K mg base 8 f (PySem.W.fnOf "law" "law" (defArgs S_law) (defBody S_law) (defScope S_law) .none kV doc pm an cdv ct) ["script"] (spT K (mup m0 T (.tab (lamQ "_law_spoilt"))) FLaw) := by
  have hz : sizeLine = 16777216 := rfl
  refine fn_okC lk hcd sc_law (fun ds d ⟨ns, e, _⟩ => by rw [e]; rfl) fun s H ds d hr hF => ?_
  obtain ⟨ns, rfl, hl, rfl⟩ := hF
  have hT0 : mup m0 T (.tab (lamQ "_law_spoilt")) T = some (.tab (lamQ "_law_spoilt")) := mup_same
  generalize mup m0 T (.tab (lamQ "_law_spoilt")) = M0 at hT0 ⊢
  refine dss_cons (ds_for (fun i ρ M => M = M0 ∧ ∃ s1 s2, ρ = [.d (dInts ns), s1, s2]) PassesOwn.never rfl (pid_rng1 (by rfl) B.range pd_int (by decide)) ⟨rfl, .u, .u, rfl⟩ ?_ ?_)
  · rintro i d ρ M hi ⟨rfl, s1, s2, rfl⟩
    obtain ⟨hi8, rfl⟩ := range0_some hi
    refine ⟨_, _, pgd_name 1 sc_law.nd, ?_⟩
    refine dss_one (ds_ifX (ptx_not (ptx_val (px_call honce hr (by rfl) (pxs_cons (PD.fx (PD.eq (d' := dInts ((ns.map fun j => j + 104729 * (i : Int)) ++ [(i : Int)])) (pd_catL (PD.eq (d' := .list ((ns.map fun j => j + 104729 * (i : Int)).map PyData.int)) (pd_lc (own := [("bent_cell", 2)]) (addF (i : Int)) rfl sc_law.nd (blkOk_by (N := ["script", "bent_turn", "bent_cell"]) (sc := defScope S_law) (by decide +kernel)) (pid_lst (pdv 0)) (by rw [List.length_map]; omega) (fun d hd => ?_)) (by rw [fm_addF])) (pd_lst (pds_cons (pdv 1) pds_nil)) ?_) ?_) (pxs_nil ⟨_, rfl, hT0, true, rfl, (fun h => nomatch h), fun _ => dss_nil ⟨rfl, _, _, rfl⟩⟩)))))))
    · obtain ⟨j, _, rfl⟩ := List.mem_map.mp hd
      refine ⟨_, [2], by simp, fun s H C cl fp => ⟨pgd_name 2 sc_law.nd, ptsd_nil, fun y hy => ?_⟩⟩
      cases hy
      exact pd_add (pdv 2) (pd_mulL pd_int (pdv 1) (by decide))
    · rw [List.length_map, List.length_map]; simp only [List.length_cons, List.length_nil]; omega
    · unfold dInts; rw [List.map_append]; rfl
  · rintro ρ M ⟨rfl, s1, s2, rfl⟩
    exact dss_one (ds_ret pd_bl rfl)
end
open LamX PyProof.Rows in
theorem all_mk {l : PySem.W.OpenLaw} {w : World} {K : Fg} {h : Heap} {mg : Str → Option Value} {fa : Addr} (X : K.In h) (G : h.Ns mainGlobals mg) (hfa : mg "law" = some (.ref fa))
    {f0 : Addr} {od0 an0 : Option Addr} {sl0 : Array (Option Value)} {oc0 kV0 dc0 pm0 cd0 ct0 : Value}
    {f1 : Addr} {od1 an1 : Option Addr} {sl1 : Array (Option Value)} {oc1 kV1 dc1 pm1 cd1 ct1 : Value}
    {f2 : Addr} {od2 an2 : Option Addr} {sl2 : Array (Option Value)} {oc2 kV2 dc2 pm2 cd2 ct2 : Value}
    {f3 : Addr} {od3 an3 : Option Addr} {sl3 : Array (Option Value)} {oc3 kV3 dc3 pm3 cd3 ct3 : Value}
    {f4 : Addr} {od4 an4 : Option Addr} {sl4 : Array (Option Value)} {oc4 kV4 dc4 pm4 cd4 ct4 : Value}
    {f5 : Addr} {od5 an5 : Option Addr} {sl5 : Array (Option Value)} {oc5 kV5 dc5 pm5 cd5 ct5 : Value}
    {f6 : Addr} {od6 an6 : Option Addr} {sl6 : Array (Option Value)} {oc6 kV6 dc6 pm6 cd6 ct6 : Value}
    {f7 : Addr} {od7 an7 : Option Addr} {sl7 : Array (Option Value)} {oc7 kV7 dc7 pm7 cd7 ct7 : Value}
    {f8 : Addr} {od8 an8 : Option Addr} {sl8 : Array (Option Value)} {oc8 kV8 dc8 pm8 cd8 ct8 : Value}
    {f9 : Addr} {od9 an9 : Option Addr} {sl9 : Array (Option Value)} {oc9 kV9 dc9 pm9 cd9 ct9 : Value}
    {f10 : Addr} {od10 an10 : Option Addr} {sl10 : Array (Option Value)} {oc10 kV10 dc10 pm10 cd10 ct10 : Value}
    {f11 : Addr} {od11 an11 : Option Addr} {sl11 : Array (Option Value)} {oc11 kV11 dc11 pm11 cd11 ct11 : Value}
    {f12 : Addr} {od12 an12 : Option Addr} {sl12 : Array (Option Value)} {oc12 kV12 dc12 pm12 cd12 ct12 : Value}
    {f13 : Addr} {od13 an13 : Option Addr} {sl13 : Array (Option Value)} {oc13 kV13 dc13 pm13 cd13 ct13 : Value}
    {f14 : Addr} {od14 an14 : Option Addr} {sl14 : Array (Option Value)} {oc14 kV14 dc14 pm14 cd14 ct14 : Value}
    {f15 : Addr} {od15 an15 : Option Addr} {sl15 : Array (Option Value)} {oc15 kV15 dc15 pm15 cd15 ct15 : Value}
    {f16 : Addr} {od16 an16 : Option Addr} {sl16 : Array (Option Value)} {oc16 kV16 dc16 pm16 cd16 ct16 : Value}
    {f17 : Addr} {od17 an17 : Option Addr} {sl17 : Array (Option Value)} {oc17 kV17 dc17 pm17  ct17 : Value}
    {cLaw pLaw : Addr}
    {f18 : Addr} {od18 an18 : Option Addr} {sl18 : Array (Option Value)} {oc18 kV18 dc18 pm18 cd18 ct18 : Value}
    {f19 : Addr} {od19 an19 : Option Addr} {sl19 : Array (Option Value)} {oc19 kV19 dc19 pm19 cd19 ct19 : Value}
    {tLETTERS : Tok}
    {tLONGEST : Tok}
    {tRING : Tok}
    {AWITH_WORTH : Addr} {tWITH_WORTH0 tWITH_WORTH1 tWITH_WORTH2 : Tok} {nWITH_WORTH : Nat} {slWITH_WORTH : Array (Option Value)}
    {ocC : Value} {odC : Option Addr} {vsC : Array Value} {slC : Array (Option Value)}
    (a0 : PySem.W.nsIn K mainGlobals "is_key" = some (some (.ref f0)))
    (l0 : K.lookup f0 = some ⟨oc0, od0, .func (PySem.W.fnOf "is_key" "is_key" (defArgs S_is_key) (defBody S_is_key) (defScope S_is_key) .none kV0 dc0 pm0 an0 cd0 ct0), sl0⟩)
    (c0 : PySem.W.codeIn K cd0 "is_key" = true)
    (k0 : PySem.W.keepIn K (.ref f0) = true)
    (a1 : PySem.W.nsIn K mainGlobals "is_worth" = some (some (.ref f1)))
    (l1 : K.lookup f1 = some ⟨oc1, od1, .func (PySem.W.fnOf "is_worth" "is_worth" (defArgs S_is_worth) (defBody S_is_worth) (defScope S_is_worth) .none kV1 dc1 pm1 an1 cd1 ct1), sl1⟩)
    (c1 : PySem.W.codeIn K cd1 "is_worth" = true)
    (k1 : PySem.W.keepIn K (.ref f1) = true)
    (a2 : PySem.W.nsIn K mainGlobals "is_pair" = some (some (.ref f2)))
    (l2 : K.lookup f2 = some ⟨oc2, od2, .func (PySem.W.fnOf "is_pair" "is_pair" (defArgs S_is_pair) (defBody S_is_pair) (defScope S_is_pair) .none kV2 dc2 pm2 an2 cd2 ct2), sl2⟩)
    (c2 : PySem.W.codeIn K cd2 "is_pair" = true)
    (k2 : PySem.W.keepIn K (.ref f2) = true)
    (a3 : PySem.W.nsIn K mainGlobals "is_book" = some (some (.ref f3)))
    (l3 : K.lookup f3 = some ⟨oc3, od3, .func (PySem.W.fnOf "is_book" "is_book" (defArgs S_is_book) (defBody S_is_book) (defScope S_is_book) .none kV3 dc3 pm3 an3 cd3 ct3), sl3⟩)
    (c3 : PySem.W.codeIn K cd3 "is_book" = true)
    (k3 : PySem.W.keepIn K (.ref f3) = true)
    (a4 : PySem.W.nsIn K mainGlobals "is_change" = some (some (.ref f4)))
    (l4 : K.lookup f4 = some ⟨oc4, od4, .func (PySem.W.fnOf "is_change" "is_change" (defArgs S_is_change) (defBody S_is_change) (defScope S_is_change) .none kV4 dc4 pm4 an4 cd4 ct4), sl4⟩)
    (c4 : PySem.W.codeIn K cd4 "is_change" = true)
    (k4 : PySem.W.keepIn K (.ref f4) = true)
    (a5 : PySem.W.nsIn K mainGlobals "_law_cell_at" = some (some (.ref f5)))
    (l5 : K.lookup f5 = some ⟨oc5, od5, .func (PySem.W.fnOf "_law_cell_at" "_law_cell_at" (defArgs S_law_cell_at) (defBody S_law_cell_at) (defScope S_law_cell_at) .none kV5 dc5 pm5 an5 cd5 ct5), sl5⟩)
    (c5 : PySem.W.codeIn K cd5 "_law_cell_at" = true)
    (k5 : PySem.W.keepIn K (.ref f5) = true)
    (a6 : PySem.W.nsIn K mainGlobals "_law_mixed" = some (some (.ref f6)))
    (l6 : K.lookup f6 = some ⟨oc6, od6, .func (PySem.W.fnOf "_law_mixed" "_law_mixed" (defArgs S_law_mixed) (defBody S_law_mixed) (defScope S_law_mixed) .none kV6 dc6 pm6 an6 cd6 ct6), sl6⟩)
    (c6 : PySem.W.codeIn K cd6 "_law_mixed" = true)
    (k6 : PySem.W.keepIn K (.ref f6) = true)
    (a7 : PySem.W.nsIn K mainGlobals "_law_drawn" = some (some (.ref f7)))
    (l7 : K.lookup f7 = some ⟨oc7, od7, .func (PySem.W.fnOf "_law_drawn" "_law_drawn" (defArgs S_law_drawn) (defBody S_law_drawn) (defScope S_law_drawn) .none kV7 dc7 pm7 an7 cd7 ct7), sl7⟩)
    (c7 : PySem.W.codeIn K cd7 "_law_drawn" = true)
    (k7 : PySem.W.keepIn K (.ref f7) = true)
    (a8 : PySem.W.nsIn K mainGlobals "_law_change" = some (some (.ref f8)))
    (l8 : K.lookup f8 = some ⟨oc8, od8, .func (PySem.W.fnOf "_law_change" "_law_change" (defArgs S_law_change) (defBody S_law_change) (defScope S_law_change) .none kV8 dc8 pm8 an8 cd8 ct8), sl8⟩)
    (c8 : PySem.W.codeIn K cd8 "_law_change" = true)
    (k8 : PySem.W.keepIn K (.ref f8) = true)
    (a9 : PySem.W.nsIn K mainGlobals "_law_book" = some (some (.ref f9)))
    (l9 : K.lookup f9 = some ⟨oc9, od9, .func (PySem.W.fnOf "_law_book" "_law_book" (defArgs S_law_book) (defBody S_law_book) (defScope S_law_book) .none kV9 dc9 pm9 an9 cd9 ct9), sl9⟩)
    (c9 : PySem.W.codeIn K cd9 "_law_book" = true)
    (k9 : PySem.W.keepIn K (.ref f9) = true)
    (a10 : PySem.W.nsIn K mainGlobals "_law_is_key" = some (some (.ref f10)))
    (l10 : K.lookup f10 = some ⟨oc10, od10, .func (PySem.W.fnOf "_law_is_key" "_law_is_key" (defArgs S_law_is_key) (defBody S_law_is_key) (defScope S_law_is_key) .none kV10 dc10 pm10 an10 cd10 ct10), sl10⟩)
    (c10 : PySem.W.codeIn K cd10 "_law_is_key" = true)
    (k10 : PySem.W.keepIn K (.ref f10) = true)
    (a11 : PySem.W.nsIn K mainGlobals "_law_is_worth" = some (some (.ref f11)))
    (l11 : K.lookup f11 = some ⟨oc11, od11, .func (PySem.W.fnOf "_law_is_worth" "_law_is_worth" (defArgs S_law_is_worth) (defBody S_law_is_worth) (defScope S_law_is_worth) .none kV11 dc11 pm11 an11 cd11 ct11), sl11⟩)
    (c11 : PySem.W.codeIn K cd11 "_law_is_worth" = true)
    (k11 : PySem.W.keepIn K (.ref f11) = true)
    (a12 : PySem.W.nsIn K mainGlobals "_law_is_book" = some (some (.ref f12)))
    (l12 : K.lookup f12 = some ⟨oc12, od12, .func (PySem.W.fnOf "_law_is_book" "_law_is_book" (defArgs S_law_is_book) (defBody S_law_is_book) (defScope S_law_is_book) .none kV12 dc12 pm12 an12 cd12 ct12), sl12⟩)
    (c12 : PySem.W.codeIn K cd12 "_law_is_book" = true)
    (k12 : PySem.W.keepIn K (.ref f12) = true)
    (a13 : PySem.W.nsIn K mainGlobals "_law_is_change" = some (some (.ref f13)))
    (l13 : K.lookup f13 = some ⟨oc13, od13, .func (PySem.W.fnOf "_law_is_change" "_law_is_change" (defArgs S_law_is_change) (defBody S_law_is_change) (defScope S_law_is_change) .none kV13 dc13 pm13 an13 cd13 ct13), sl13⟩)
    (c13 : PySem.W.codeIn K cd13 "_law_is_change" = true)
    (k13 : PySem.W.keepIn K (.ref f13) = true)
    (a14 : PySem.W.nsIn K mainGlobals "_law_places_in" = some (some (.ref f14)))
    (l14 : K.lookup f14 = some ⟨oc14, od14, .func (PySem.W.fnOf "_law_places_in" "_law_places_in" (defArgs S_law_places_in) (defBody S_law_places_in) (defScope S_law_places_in) .none kV14 dc14 pm14 an14 cd14 ct14), sl14⟩)
    (c14 : PySem.W.codeIn K cd14 "_law_places_in" = true)
    (k14 : PySem.W.keepIn K (.ref f14) = true)
    (a15 : PySem.W.nsIn K mainGlobals "_law_put_at" = some (some (.ref f15)))
    (l15 : K.lookup f15 = some ⟨oc15, od15, .func (PySem.W.fnOf "_law_put_at" "_law_put_at" (defArgs S_law_put_at) (defBody S_law_put_at) (defScope S_law_put_at) .none kV15 dc15 pm15 an15 cd15 ct15), sl15⟩)
    (c15 : PySem.W.codeIn K cd15 "_law_put_at" = true)
    (k15 : PySem.W.keepIn K (.ref f15) = true)
    (a16 : PySem.W.nsIn K mainGlobals "_law_otherwise" = some (some (.ref f16)))
    (l16 : K.lookup f16 = some ⟨oc16, od16, .func (PySem.W.fnOf "_law_otherwise" "_law_otherwise" (defArgs S_law_otherwise) (defBody S_law_otherwise) (defScope S_law_otherwise) .none kV16 dc16 pm16 an16 cd16 ct16), sl16⟩)
    (c16 : PySem.W.codeIn K cd16 "_law_otherwise" = true)
    (k16 : PySem.W.keepIn K (.ref f16) = true)
    (a17 : PySem.W.nsIn K mainGlobals "_law_spoilt" = some (some (.ref f17)))
    (l17 : K.lookup f17 = some ⟨oc17, od17, .func (PySem.W.fnOf "_law_spoilt" "_law_spoilt" (defArgs S_law_spoilt) (defBody S_law_spoilt) (defScope S_law_spoilt) .none kV17 dc17 pm17 an17 (.ref cLaw) ct17), sl17⟩)
    (c17 : PySem.W.codeIn K (.ref cLaw) "_law_spoilt" = true)
    (k17 : PySem.W.keepIn K (.ref f17) = true)
    (a18 : PySem.W.nsIn K mainGlobals "_law_once" = some (some (.ref f18)))
    (l18 : K.lookup f18 = some ⟨oc18, od18, .func (PySem.W.fnOf "_law_once" "_law_once" (defArgs S_law_once) (defBody S_law_once) (defScope S_law_once) .none kV18 dc18 pm18 an18 cd18 ct18), sl18⟩)
    (c18 : PySem.W.codeIn K cd18 "_law_once" = true)
    (k18 : PySem.W.keepIn K (.ref f18) = true)
    (a19 : PySem.W.nsIn K mainGlobals "law" = some (some (.ref f19)))
    (l19 : K.lookup f19 = some ⟨oc19, od19, .func (PySem.W.fnOf "law" "law" (defArgs S_law) (defBody S_law) (defScope S_law) .none kV19 dc19 pm19 an19 cd19 ct19), sl19⟩)
    (c19 : PySem.W.codeIn K cd19 "law" = true)
    (k19 : PySem.W.keepIn K (.ref f19) = true)
    (qLETTERS : PySem.W.nsIn K mainGlobals "LETTERS" = some (some (.str "abcdefghijklmnopqrstuvwxyz" tLETTERS)))
    (qLONGEST : PySem.W.nsIn K mainGlobals "LONGEST" = some (some (.int 4 tLONGEST)))
    (qRING : PySem.W.nsIn K mainGlobals "RING" = some (some (.int 1000 tRING)))
    (qWITH_WORTH : PySem.W.nsIn K mainGlobals "WITH_WORTH" = some (some (.ref AWITH_WORTH)))
    (rWITH_WORTH : K.lookup AWITH_WORTH = some ⟨.type "tuple", none, .seq #[.str "put" tWITH_WORTH0, .str "add" tWITH_WORTH1, .str "keep" tWITH_WORTH2] nWITH_WORTH, slWITH_WORTH⟩)
    (zlen : PySem.W.nsIn K mainGlobals "len" = some none)
    (zisinstance : PySem.W.nsIn K mainGlobals "isinstance" = some none)
    (zstr : PySem.W.nsIn K mainGlobals "str" = some none)
    (zint : PySem.W.nsIn K mainGlobals "int" = some none)
    (zbool : PySem.W.nsIn K mainGlobals "bool" = some none)
    (ztuple : PySem.W.nsIn K mainGlobals "tuple" = some none)
    (zlist : PySem.W.nsIn K mainGlobals "list" = some none)
    (zall : PySem.W.nsIn K mainGlobals "all" = some none)
    (zrange : PySem.W.nsIn K mainGlobals "range" = some none)
    (zenumerate : PySem.W.nsIn K mainGlobals "enumerate" = some none)
    (zzip : PySem.W.nsIn K mainGlobals "zip" = some none)
    (zsorted : PySem.W.nsIn K mainGlobals "sorted" = some none)
    (zset : PySem.W.nsIn K mainGlobals "set" = some none)
    (zdict : PySem.W.nsIn K mainGlobals "dict" = some none)
    (zmin : PySem.W.nsIn K mainGlobals "min" = some none)
    (zmax : PySem.W.nsIn K mainGlobals "max" = some none)
    (zrepr : PySem.W.nsIn K mainGlobals "repr" = some none)
    (zValueError : PySem.W.nsIn K mainGlobals "ValueError" = some none)
    (lC : K.lookup cLaw = some ⟨ocC, odC, .fields vsC, slC⟩)
    (hp : vsC[11]? = some (.ref pLaw))
    (nP : K.lookup pLaw = none) :
    ∃ (fd : FuncData) (c T : Addr), PySem.W.tabIn K "_law_spoilt" = some (c, T) ∧ K.lookup T = none ∧ (∀ (s : Shared) (v : Value), BindsTo s fd ⟨[v], []⟩ [("script", v)]) ∧ ∀ base : Heap, K.In base → base.Ns mainGlobals mg → TabB base mg c T → FnC l.prog w K mg base 8 fa fd ["script"] (spT K (mup m0 T (.tab (lamQ "_law_spoilt"))) FLaw) := by
  have e := hfa.symm.trans (PySem.W.mg_of X G a19)
  cases e
  have B : Bt mg := ⟨PySem.W.mg_none_of X G zlen, PySem.W.mg_none_of X G zisinstance, PySem.W.mg_none_of X G zstr, PySem.W.mg_none_of X G zint, PySem.W.mg_none_of X G zbool, PySem.W.mg_none_of X G ztuple, PySem.W.mg_none_of X G zlist, PySem.W.mg_none_of X G zall, PySem.W.mg_none_of X G zrange, PySem.W.mg_none_of X G zenumerate, PySem.W.mg_none_of X G zzip, PySem.W.mg_none_of X G zsorted, PySem.W.mg_none_of X G zset, PySem.W.mg_none_of X G zdict, PySem.W.mg_none_of X G zmin, PySem.W.mg_none_of X G zmax, PySem.W.mg_none_of X G zrepr⟩
  have hV := PySem.W.mg_none_of X G zValueError
  have ht : PySem.W.tabIn K "_law_spoilt" = some (cLaw, pLaw) := by
    unfold PySem.W.tabIn
    rw [a17]
    simp only [l17, lC, hp]
  have gLETTERS : GS mg "LETTERS" "abcdefghijklmnopqrstuvwxyz" := ⟨_, PySem.W.mg_of X G qLETTERS⟩
  have gLONGEST : GI mg "LONGEST" 4 := ⟨_, PySem.W.mg_of X G qLONGEST⟩
  have gRING : GI mg "RING" 1000 := ⟨_, PySem.W.mg_of X G qRING⟩
  have gWITH_WORTH : GT K mg "WITH_WORTH" [.str "put", .str "add", .str "keep"] := ⟨_, PySem.W.mg_of X G qWITH_WORTH, fun H => .tup (xs := [.str "put", .str "add", .str "keep"]) (.inr ⟨_, _, _, rWITH_WORTH, rfl, rfl, rfl, Nat.le_of_ble_eq_true rfl, (.cons ⟨_, rfl⟩ (.cons ⟨_, rfl⟩ (.cons ⟨_, rfl⟩ .nil)))⟩) (.cons (.str _) (.cons (.str _) (.cons (.str _) .nil)))⟩
  have F0 := fun_mk (st := S_is_key) l0 c0 k0
  have b0 := F0.binds (ps := ["thing"]) fun _ _ _ _ _ _ us hl => match us, hl with | [_], _ => rfl
  have Dis_key : Dfn K mg "is_key" S_is_key ["thing"] := ⟨_, _, F0, PySem.W.mg_of X G a0, b0⟩
  have F1 := fun_mk (st := S_is_worth) l1 c1 k1
  have b1 := F1.binds (ps := ["thing"]) fun _ _ _ _ _ _ us hl => match us, hl with | [_], _ => rfl
  have Dis_worth : Dfn K mg "is_worth" S_is_worth ["thing"] := ⟨_, _, F1, PySem.W.mg_of X G a1, b1⟩
  have F2 := fun_mk (st := S_is_pair) l2 c2 k2
  have b2 := F2.binds (ps := ["thing"]) fun _ _ _ _ _ _ us hl => match us, hl with | [_], _ => rfl
  have Dis_pair : Dfn K mg "is_pair" S_is_pair ["thing"] := ⟨_, _, F2, PySem.W.mg_of X G a2, b2⟩
  have F3 := fun_mk (st := S_is_book) l3 c3 k3
  have b3 := F3.binds (ps := ["thing"]) fun _ _ _ _ _ _ us hl => match us, hl with | [_], _ => rfl
  have Dis_book : Dfn K mg "is_book" S_is_book ["thing"] := ⟨_, _, F3, PySem.W.mg_of X G a3, b3⟩
  have F4 := fun_mk (st := S_is_change) l4 c4 k4
  have b4 := F4.binds (ps := ["thing"]) fun _ _ _ _ _ _ us hl => match us, hl with | [_], _ => rfl
  have Dis_change : Dfn K mg "is_change" S_is_change ["thing"] := ⟨_, _, F4, PySem.W.mg_of X G a4, b4⟩
  have F5 := fun_mk (st := S_law_cell_at) l5 c5 k5
  have b5 := F5.binds (ps := ["script", "k"]) fun _ _ _ _ _ _ us hl => match us, hl with | [_, _], _ => rfl
  have D_law_cell_at : Dfn K mg "_law_cell_at" S_law_cell_at ["script", "k"] := ⟨_, _, F5, PySem.W.mg_of X G a5, b5⟩
  have F6 := fun_mk (st := S_law_mixed) l6 c6 k6
  have b6 := F6.binds (ps := ["script", "k"]) fun _ _ _ _ _ _ us hl => match us, hl with | [_, _], _ => rfl
  have D_law_mixed : Dfn K mg "_law_mixed" S_law_mixed ["script", "k"] := ⟨_, _, F6, PySem.W.mg_of X G a6, b6⟩
  have F7 := fun_mk (st := S_law_drawn) l7 c7 k7
  have b7 := F7.binds (ps := ["number", "k"]) fun _ _ _ _ _ _ us hl => match us, hl with | [_, _], _ => rfl
  have D_law_drawn : Dfn K mg "_law_drawn" S_law_drawn ["number", "k"] := ⟨_, _, F7, PySem.W.mg_of X G a7, b7⟩
  have F8 := fun_mk (st := S_law_change) l8 c8 k8
  have b8 := F8.binds (ps := ["number", "many"]) fun _ _ _ _ _ _ us hl => match us, hl with | [_, _], _ => rfl
  have D_law_change : Dfn K mg "_law_change" S_law_change ["number", "many"] := ⟨_, _, F8, PySem.W.mg_of X G a8, b8⟩
  have F9 := fun_mk (st := S_law_book) l9 c9 k9
  have b9 := F9.binds (ps := ["number"]) fun _ _ _ _ _ _ us hl => match us, hl with | [_], _ => rfl
  have D_law_book : Dfn K mg "_law_book" S_law_book ["number"] := ⟨_, _, F9, PySem.W.mg_of X G a9, b9⟩
  have F10 := fun_mk (st := S_law_is_key) l10 c10 k10
  have b10 := F10.binds (ps := ["thing"]) fun _ _ _ _ _ _ us hl => match us, hl with | [_], _ => rfl
  have D_law_is_key : Dfn K mg "_law_is_key" S_law_is_key ["thing"] := ⟨_, _, F10, PySem.W.mg_of X G a10, b10⟩
  have F11 := fun_mk (st := S_law_is_worth) l11 c11 k11
  have b11 := F11.binds (ps := ["thing"]) fun _ _ _ _ _ _ us hl => match us, hl with | [_], _ => rfl
  have D_law_is_worth : Dfn K mg "_law_is_worth" S_law_is_worth ["thing"] := ⟨_, _, F11, PySem.W.mg_of X G a11, b11⟩
  have F12 := fun_mk (st := S_law_is_book) l12 c12 k12
  have b12 := F12.binds (ps := ["thing"]) fun _ _ _ _ _ _ us hl => match us, hl with | [_], _ => rfl
  have D_law_is_book : Dfn K mg "_law_is_book" S_law_is_book ["thing"] := ⟨_, _, F12, PySem.W.mg_of X G a12, b12⟩
  have F13 := fun_mk (st := S_law_is_change) l13 c13 k13
  have b13 := F13.binds (ps := ["thing"]) fun _ _ _ _ _ _ us hl => match us, hl with | [_], _ => rfl
  have D_law_is_change : Dfn K mg "_law_is_change" S_law_is_change ["thing"] := ⟨_, _, F13, PySem.W.mg_of X G a13, b13⟩
  have F14 := fun_mk (st := S_law_places_in) l14 c14 k14
  have b14 := F14.binds (ps := ["bent_one", "bent_way"]) fun _ _ _ _ _ _ us hl => match us, hl with | [_, _], _ => rfl
  have D_law_places_in : Dfn K mg "_law_places_in" S_law_places_in ["bent_one", "bent_way"] := ⟨_, _, F14, PySem.W.mg_of X G a14, b14⟩
  have F15 := fun_mk (st := S_law_put_at) l15 c15 k15
  have b15 := F15.binds (ps := ["bent_one", "bent_way", "bent_by"]) fun _ _ _ _ _ _ us hl => match us, hl with | [_, _, _], _ => rfl
  have D_law_put_at : Dfn K mg "_law_put_at" S_law_put_at ["bent_one", "bent_way", "bent_by"] := ⟨_, _, F15, PySem.W.mg_of X G a15, b15⟩
  have F16 := fun_mk (st := S_law_otherwise) l16 c16 k16
  have b16 := F16.binds (ps := ["bent_one", "bent_number"]) fun _ _ _ _ _ _ us hl => match us, hl with | [_, _], _ => rfl
  have D_law_otherwise : Dfn K mg "_law_otherwise" S_law_otherwise ["bent_one", "bent_number"] := ⟨_, _, F16, PySem.W.mg_of X G a16, b16⟩
  have F17 := fun_mk (st := S_law_spoilt) l17 c17 k17
  have b17 := F17.binds (ps := ["thing", "number", "deep"]) fun _ _ _ _ _ _ us hl => match us, hl with | [_, _, _], _ => rfl
  have g_law_spoilt := PySem.W.mg_of X G a17
  have D_law_spoilt : Dfn K mg "_law_spoilt" S_law_spoilt ["thing", "number", "deep"] := ⟨_, _, F17, PySem.W.mg_of X G a17, b17⟩
  have F18 := fun_mk (st := S_law_once) l18 c18 k18
  have b18 := F18.binds (ps := ["script"]) fun _ _ _ _ _ _ us hl => match us, hl with | [_], _ => rfl
  have D_law_once : Dfn K mg "_law_once" S_law_once ["script"] := ⟨_, _, F18, PySem.W.mg_of X G a18, b18⟩
  refine ⟨PySem.W.fnOf "law" "law" (defArgs S_law) (defBody S_law) (defScope S_law) .none kV19 dc19 pm19 an19 cd19 ct19, cLaw, pLaw, ht, nP, fun s v => .of_eq rfl, fun base _ _ TB => ?_⟩
  have dis_key := ok_is_key (P := l.prog) (w := w) (mg := mg) (base := base) Dis_key B gLETTERS gLONGEST
  have dis_worth := ok_is_worth (P := l.prog) (w := w) (mg := mg) (base := base) Dis_worth B gRING
  have dis_pair := ok_is_pair (P := l.prog) (w := w) (mg := mg) (base := base) Dis_pair B dis_key dis_worth
  have dis_book := ok_is_book (P := l.prog) (w := w) (mg := mg) (base := base) Dis_book B dis_pair
  have dis_change := ok_is_change (P := l.prog) (w := w) (mg := mg) (base := base) Dis_change B gWITH_WORTH dis_key dis_worth
  have d_law_cell_at := ok_law_cell_at (P := l.prog) (w := w) (mg := mg) (base := base) D_law_cell_at B
  have d_law_mixed := ok_law_mixed (P := l.prog) (w := w) (mg := mg) (base := base) D_law_mixed d_law_cell_at
  have d_law_drawn := ok_law_drawn (P := l.prog) (w := w) (mg := mg) (base := base) D_law_drawn
  have d_law_change := ok_law_change (P := l.prog) (w := w) (mg := mg) (base := base) D_law_change
  have d_law_book := ok_law_book (P := l.prog) (w := w) (mg := mg) (base := base) D_law_book B d_law_drawn
  have d_law_is_key := ok_law_is_key (P := l.prog) (w := w) (mg := mg) (base := base) D_law_is_key B
  have d_law_is_worth := ok_law_is_worth (P := l.prog) (w := w) (mg := mg) (base := base) D_law_is_worth B
  have d_law_is_book := ok_law_is_book (P := l.prog) (w := w) (mg := mg) (base := base) D_law_is_book B d_law_is_key d_law_is_worth
  have d_law_is_change := ok_law_is_change (P := l.prog) (w := w) (mg := mg) (base := base) D_law_is_change B d_law_is_key d_law_is_worth
  have d_law_places_in := ok_law_places_in (P := l.prog) (w := w) (mg := mg) (base := base) D_law_places_in B
  have d_law_otherwise := ok_law_otherwise (P := l.prog) (w := w) (mg := mg) (base := base) D_law_otherwise B
  have d_law_put_at := ok_law_put_at (P := l.prog) (w := w) (mg := mg) (base := base) D_law_put_at
  have d_law_spoilt := ok_law_spoilt (P := l.prog) (w := w) (mg := mg) (base := base) l17 c17 g_law_spoilt k17 b17 TB B d_law_places_in d_law_put_at d_law_otherwise
  have d_law_once := ok_law_once (P := l.prog) (w := w) (mg := mg) (base := base) D_law_once B d_law_mixed d_law_book d_law_change d_law_spoilt dis_book d_law_is_book dis_change d_law_is_change
  exact ok_law l19 c19 B d_law_once
end AB
open PySem PySem.W PyProof.Rows
set_option maxRecDepth 100000 in
set_option maxHeartbeats 0 in
theorem PySem.Challenge.cw_awaybook_k09_lists_anywhere_holds : PySem.Challenge.rw_awaybook_k09_lists_anywhere.Holds := by
  w_on; o_law; k_head; (case hw => w_witness2)
  k_fill
  refine' AB.walk_ofC (l := PySem.Challenge.rw_awaybook_k09_lists_anywhere) (k := 8) (y := "_law_spoilt") rfl rfl ⟨rfl, by decide, by decide⟩ (fun w h Y => by first | exact PySem.W.km_in_of Y | exact PySem.W.kIn_of Y) ?hrec ?F
  (case hrec => rfl)
  case F =>
    intro w mg fa h KX G hmg
    refine' AB.all_mk KX G hmg ?a0 ?l0 ?c0 ?k0 ?a1 ?l1 ?c1 ?k1 ?a2 ?l2 ?c2 ?k2 ?a3 ?l3 ?c3 ?k3 ?a4 ?l4 ?c4 ?k4 ?a5 ?l5 ?c5 ?k5 ?a6 ?l6 ?c6 ?k6 ?a7 ?l7 ?c7 ?k7 ?a8 ?l8 ?c8 ?k8 ?a9 ?l9 ?c9 ?k9 ?a10 ?l10 ?c10 ?k10 ?a11 ?l11 ?c11 ?k11 ?a12 ?l12 ?c12 ?k12 ?a13 ?l13 ?c13 ?k13 ?a14 ?l14 ?c14 ?k14 ?a15 ?l15 ?c15 ?k15 ?a16 ?l16 ?c16 ?k16 ?a17 ?l17 ?c17 ?k17 ?a18 ?l18 ?c18 ?k18 ?a19 ?l19 ?c19 ?k19 ?qLETTERS ?qLONGEST ?qRING ?qWITH_WORTH ?rWITH_WORTH ?zlen ?zisinstance ?zstr ?zint ?zbool ?ztuple ?zlist ?zall ?zrange ?zenumerate ?zzip ?zsorted ?zset ?zdict ?zmin ?zmax ?zrepr ?zValueError ?lC ?hp ?nP
    (case a0 => k_is); (case l0 => k_is); (case c0 => k_is); (case k0 => k_is); (case a1 => k_is); (case l1 => k_is); (case c1 => k_is); (case k1 => k_is)
    (case a2 => k_is); (case l2 => k_is); (case c2 => k_is); (case k2 => k_is); (case a3 => k_is); (case l3 => k_is); (case c3 => k_is); (case k3 => k_is)
    (case a4 => k_is); (case l4 => k_is); (case c4 => k_is); (case k4 => k_is); (case a5 => k_is); (case l5 => k_is); (case c5 => k_is); (case k5 => k_is)
    (case a6 => k_is); (case l6 => k_is); (case c6 => k_is); (case k6 => k_is); (case a7 => k_is); (case l7 => k_is); (case c7 => k_is); (case k7 => k_is)
    (case a8 => k_is); (case l8 => k_is); (case c8 => k_is); (case k8 => k_is); (case a9 => k_is); (case l9 => k_is); (case c9 => k_is); (case k9 => k_is)
    (case a10 => k_is); (case l10 => k_is); (case c10 => k_is); (case k10 => k_is); (case a11 => k_is); (case l11 => k_is); (case c11 => k_is); (case k11 => k_is)
    (case a12 => k_is); (case l12 => k_is); (case c12 => k_is); (case k12 => k_is); (case a13 => k_is); (case l13 => k_is); (case c13 => k_is); (case k13 => k_is)
    (case a14 => k_is); (case l14 => k_is); (case c14 => k_is); (case k14 => k_is); (case a15 => k_is); (case l15 => k_is); (case c15 => k_is); (case k15 => k_is)
    (case a16 => k_is); (case l16 => k_is); (case c16 => k_is); (case k16 => k_is); (case a17 => k_is); (case l17 => k_is); (case c17 => k_is); (case k17 => k_is)
    (case a18 => k_is); (case l18 => k_is); (case c18 => k_is); (case k18 => k_is); (case a19 => k_is); (case l19 => k_is); (case c19 => k_is); (case k19 => k_is)
    (case qLETTERS => k_is); (case qLONGEST => k_is); (case qRING => k_is); (case qWITH_WORTH => k_is); (case rWITH_WORTH => k_is); (case zlen => k_is); (case zisinstance => k_is); (case zstr => k_is)
    (case zint => k_is); (case zbool => k_is); (case ztuple => k_is); (case zlist => k_is); (case zall => k_is); (case zrange => k_is); (case zenumerate => k_is); (case zzip => k_is)
    (case zsorted => k_is); (case zset => k_is); (case zdict => k_is); (case zmin => k_is); (case zmax => k_is); (case zrepr => k_is); (case zValueError => k_is); (case lC => k_is)
    (case hp => rfl); (case nP => kernel_rfl)
