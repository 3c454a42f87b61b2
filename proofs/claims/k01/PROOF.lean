import PyProof.Rows.All
import Wide.All
import OpenK.AllK
import Wide.FinOn
import HandS.ForMost
import HandS.IsInst
import HandS.Walk
import HandS.Zip
import HandS.TupAny
import HandS.TupMul
import HandS.Flow
import KE.GoesMore
import HandS.Style
import PySem.Challenge.RW_awaybook_k01_books_and_changes
set_option Elab.async false
set_option linter.all false
set_option maxRecDepth 100000
set_option maxHeartbeats 4000000
/-! DL0: tuples that are known to bear no dict of their own, as they are made. -/
namespace AB
open PySem L2
abbrev Fg := PySem.W.Frag
/-- a tuple at a, plain -/
def PlT (K : Fg) (H : Hp) (a : Addr) (xs : List V) : Prop :=
  (∃ o, H a = some (.frz o (.tup xs)) ∧ o.dict = none) ∨
    ∃ (o : Obj) (its : Array Value) (n : Nat), K.lookup a = some o ∧ o.cls = .type "tuple" ∧ o.dict = none ∧ o.data = .seq its n ∧ its.size ≤ sizeLine ∧ Vals xs its.toList
theorem PlT.sq {K : Fg} {H : Hp} {a : Addr} {xs : List V} (h : PlT K H a xs) : SqT K H a xs := by
  rcases h with ⟨o, h, _⟩ | ⟨o, its, n, h1, h2, _, h3, h4, h5⟩
  · exact .inl (.inr ⟨o, h⟩)
  · exact .inr ⟨o, its, n, h1, h2, h3, h4, h5⟩
theorem PlT.of {K : Fg} {H : Hp} {a : Addr} {xs : List V} {o : Obj} (h : H a = some (.frz o (.tup xs))) (d : o.dict = none) : PlT K H a xs := .inl ⟨o, h, d⟩
theorem PlT.mono {K : Fg} {H H' : Hp} {a : Addr} {xs : List V} (e : Same H H') (h : PlT K H a xs) : PlT K H' a xs := by
  rcases h with ⟨o, h, d⟩ | h
  · exact .inl ⟨o, e _ _ h, d⟩
  · exact .inr h
theorem PlT.plain {X : Cx} {pins : List (Addr × Obj)} {σ : L2.St} {H : Hp} {s : Shared} {a : Addr} {xs : List V} (I : Inv X pins σ H s) (h : PlT X.K H a xs) : ∃ (its : List Value) (o : Obj) (n : Nat), Vals xs its ∧ s.heap.get? a = some o ∧ o.cls = .type "tuple" ∧ o.dict = none ∧ o.data = .seq its.toArray n ∧ xs.length ≤ sizeLine := by
  rcases h with ⟨o, h, d⟩ | ⟨o, its, n, h1, h2, h2', h3, h4, h5⟩
  · obtain ⟨e, z, its, r, o', e', c, n, q⟩ := I.hok a _ h
    rw [e] at e'; cases e'
    exact ⟨its, o, n, r, e, c, d, q, z⟩
  · have := h5.length
    refine ⟨its.toList, o, n, h5, I.kIn a o h1, h2, h2', by simpa using h3, ?_⟩
    rw [this, Array.length_toList]; exact h4
section
variable {X : Cx} {e : Expr} {es : List Expr} {t : TA} {pos : Pos} {pins : List (Addr × Obj)} {σ : L2.St} {H : Hp} {s : Shared}
/-- a new tuple is laid -/
theorem laidT {xs : List V} {us : List Value} {h' : Heap} {Q : VK} (I : Inv X pins σ H { s with heap := h' }) (r : Vals xs us) (z : xs.length ≤ sizeLine) (q : ∀ p o, H p = none → o.dict = none → Q (.ref p) (upd H p (.frz o (.tup xs)))) :
    EP X pins σ Q (.ref h'.objs.size) { s with heap := h'.push { cls := .type "tuple", data := .seq us.toArray } } := by
  refine ⟨.ref h'.objs.size, _, I.laid (s := { s with heap := h' }) (t' := s.toks) (a := h'.objs.size) (o := .frz { cls := .type "tuple", data := .seq us.toArray } (.tup xs)) (fun b o e => Heap.get?_push_of_some _ e) (Nat.le_refl _) ?_, rfl, q _ _ (I.hok.fresh (Nat.le_refl _)) rfl⟩
  exact ⟨Heap.get?_push_size _ rfl, z, us, r, PyProof.Rows.IsTup.new _ _⟩
def tTupF (t : TA) : TE := fun σ H Q => t σ H fun xs H1 => xs.length ≤ sizeLine ∧ ∀ p o, H1 p = none → o.dict = none → Q (.ref p) (upd H1 p (.frz o (.tup xs)))
theorem pe_tupF {x1} (h : PA X es t) : PE X (.Tuple es x1 pos) (tTupF t) := by
  refine ⟨fun pins s σ H Q I hq => ?_⟩
  refine wpAny_Tuple_spliced (thn (h.run pos pins s σ H _ I hq) fun us s1 ⟨xs, H1, I1, r, z, q⟩ => ⟨by rw [← r.length]; exact z, ?_⟩)
  exact laidT (s := s1) (h' := s1.heap) I1 r z q
def rCatF (K : Fg) : R2 := fun x y H Q => ∃ a b xs ys, x = .ref a ∧ y = .ref b ∧ SqT K H a xs ∧ SqT K H b ys ∧ xs.length + ys.length ≤ sizeLine ∧
  (xs = [] → Q (.ref b) H) ∧ (xs ≠ [] → ys = [] → Q (.ref a) H) ∧ (xs ≠ [] → ys ≠ [] → ∀ p o, H p = none → o.dict = none → Q (.ref p) (upd H p (.frz o (.tup (xs ++ ys)))))
theorem op_catF : OpR X (binaryOp .Add) (rCatF X.K) := by
  intro pins s σ H x y v u Q I rx ry h
  obtain ⟨a, b, xs, ys, rfl, rfl, ha, hb, hz, q0, q1, q2⟩ := h
  cases rx
  cases ry
  obtain ⟨its, r1, p1, _⟩ := I.tuple ha
  obtain ⟨its2, r2, p2, _⟩ := I.tuple hb
  by_cases hx : xs = []
  · subst hx
    cases r1
    exact cat_tup0 p1 p2 ⟨.ref b, H, I, rfl, q0 rfl⟩
  · refine HT.cat_tup p1 p2 (fun z => hx (r1.nil_iff.mp z)) (fun z => ⟨.ref a, H, I, rfl, q1 hx (r2.nil_iff.mp z)⟩) (fun z => ?_) (by rw [← r1.length, ← r2.length]; exact hz)
    exact laidT (s := s) (h' := s.heap) I (r1.append r2) (by rw [List.length_append]; exact hz) (q2 hx fun w => z (r2.nil_iff.mpr w))
def rSlF (K : Fg) : V → Option Int → Option Int → Hp → VK → Prop := fun x lo hi H Q => ∃ a xs, x = .ref a ∧ SqT K H a xs ∧
  (HT.sIx xs.length 0 lo = 0 ∧ HT.sIx xs.length xs.length hi = xs.length → Q (.ref a) H) ∧ (¬ (HT.sIx xs.length 0 lo = 0 ∧ HT.sIx xs.length xs.length hi = xs.length) → ∀ p o, H p = none → o.dict = none → Q (.ref p) (upd H p (.frz o (.tup (cutV xs lo hi)))))
theorem sl_tupF : L2.SlR X (rSlF X.K) := by
  intro pins s σ H x v vl vu lo hi sl Q I rx hs pl pu h
  obtain ⟨a, xs, rfl, hx, q1, q2⟩ := h
  cases rx
  obtain ⟨its, r, ht, hz⟩ := I.tuple hx
  have hlen : its.toArray.size = xs.length := by rw [List.size_toArray]; exact r.length.symm
  refine ⟨"tuple", _, PyProof.Rows.slot_tuple_getitem.lookup, ht.typeIs, ?_⟩
  by_cases hw : HT.sIx xs.length 0 lo = 0 ∧ HT.sIx xs.length xs.length hi = xs.length
  · exact getItem_tuple_whole ht hs pl pu (by rw [hlen]; exact hw) ⟨.ref a, H, I, rfl, q1 hw⟩
  · refine HT.getItem_tuple_cut ht hs pl pu (by rw [hlen]; exact hw) ?_ (by rw [hlen]; exact hz)
    rw [hlen]
    exact laidT (s := s) (h' := s.heap) I ((r.drop (HT.sIx xs.length 0 lo)).take (HT.sIx xs.length xs.length hi - HT.sIx xs.length 0 lo)) (Nat.le_trans (cutV_length xs lo hi) hz) (q2 hw)
theorem call_tupleF : CallR X (.type "tuple") (fun xs H Q => ∃ p ys, xs = [.ref p] ∧ ((SqL X.K H p ys ∧ ∀ l o, H l = none → o.dict = none → Q (.ref l) (upd H l (.frz o (.tup ys)))) ∨ (SqT X.K H p ys ∧ Q (.ref p) H))) := by
  intro pins s σ H xs us Q I r h
  obtain ⟨p, ys, rfl, h⟩ := h
  obtain ⟨u, rfl, rx⟩ := vals1 r
  cases rx
  rcases h with ⟨hq, q⟩ | ⟨hq, q⟩
  · obtain ⟨its, r', pl, hz⟩ := I.list hq
    have hlen := r'.length
    refine call_tuple_list pl.isList (fun h' kp => ?_) (by simp only [List.size_toArray] <;> omega)
    exact laidT (s := s) (h' := h') (I.kept (t' := s.toks) kp) r' hz q
  · obtain ⟨its, r', pl, hz⟩ := I.tuple hq
    exact call_tuple_same pl ⟨.ref p, H, I, rfl, q⟩
end
end AB
/-! DL: readings by DATA. A value is known by the data (PyData) that it stands for; H the heap, Hs the part of it in which shared data lies. -/
namespace AB
open PySem L2
abbrev D := PyData

/-! ### heaps that grow -/
structure Grow (Hs H Hs' H' : Hp) : Prop where
  h : Same H H'
  s : Same Hs Hs'
  i : Same Hs' H'
  n : ∀ a, Hs a = none → H a ≠ none → Hs' a = none
theorem Grow.refl {Hs H : Hp} (i : Same Hs H) : Grow Hs H Hs H := ⟨Same.refl _, Same.refl _, i, fun _ h _ => h⟩
theorem Grow.trans {Hs H Hs1 H1 Hs2 H2 : Hp} (a : Grow Hs H Hs1 H1) (b : Grow Hs1 H1 Hs2 H2) : Grow Hs H Hs2 H2 :=
  ⟨a.h.trans b.h, a.s.trans b.s, b.i, fun x h1 h2 => b.n x (a.n x h1 h2) fun e => by
    cases q : H x with
    | none => exact h2 q
    | some o => rw [a.h x o q] at e; cases e⟩
theorem same_upd {H : Hp} {p : Addr} {o : HO} (h : H p = none) : Same H (upd H p o) := fun b x e => by
  rw [upd_ne (ne_of_none e h)]; exact e
theorem _root_.L2.Same.none {H H' : Hp} (e : Same H H') {a : Addr} (h : H' a = none) : H a = none := e.free h
theorem Grow.new {Hs H : Hp} {p : Addr} {o : HO} (i : Same Hs H) (h : H p = none) : Grow Hs H (upd Hs p o) (upd H p o) :=
  ⟨same_upd h, same_upd (i.free h), fun b x e => by
    by_cases hb : b = p
    · subst hb; rw [upd_same] at e ⊢; exact e
    · rw [upd_ne hb] at e ⊢; exact i b x e, fun a h1 h2 => by
    have hb : a ≠ p := fun z => h2 (z ▸ h)
    rw [upd_ne hb]; exact h1⟩
/-- a new object that is not shared -/
theorem Grow.newH {Hs H : Hp} {p : Addr} {o : HO} (i : Same Hs H) (h : H p = none) : Grow Hs H Hs (upd H p o) :=
  ⟨same_upd h, Same.refl _, i.trans (same_upd h), fun _ h1 _ => h1⟩

/-! ### data -/
mutual
/-- a value that stands for data; tuples plain -/
inductive Dq (K : Fg) (H : Hp) : V → PyData → Prop
  | non : Dq K H .non .none
  | bl (b : Bool) : Dq K H (.bl b) (.bool b)
  | int (i : Int) : Dq K H (.int i) (.int i)
  | str (x : Str) : Dq K H (.str x) (.str x)
  | lst {a : Addr} {xs : List V} {ds : List PyData} : SqL K H a xs → DqAll K H xs ds → Dq K H (.ref a) (.list ds)
  | tup {a : Addr} {xs : List V} {ds : List PyData} : PlT K H a xs → DqAll K H xs ds → Dq K H (.ref a) (.tuple ds)
inductive DqAll (K : Fg) (H : Hp) : List V → List PyData → Prop
  | nil : DqAll K H [] []
  | cons {v : V} {vs : List V} {d : PyData} {ds : List PyData} : Dq K H v d → DqAll K H vs ds → DqAll K H (v :: vs) (d :: ds)
end
mutual
theorem Dq.dp {K : Fg} {H : Hp} : ∀ {v : V} {d : D}, Dq K H v d → Dp K H v d
  | _, _, .non => .non
  | _, _, .bl b => .bl b
  | _, _, .int i => .int i
  | _, _, .str x => .str x
  | _, _, .lst h a => .lst h a.dp
  | _, _, .tup h a => .tup h.sq a.dp
theorem DqAll.dp {K : Fg} {H : Hp} : ∀ {vs : List V} {ds : List D}, DqAll K H vs ds → DpAll K H vs ds
  | _, _, .nil => .nil
  | _, _, .cons a b => .cons a.dp b.dp
end
theorem sqT_mono {K : Fg} {H H' : Hp} {a : Addr} {xs : List V} (e : Same H H') (h : SqT K H a xs) : SqT K H' a xs := by
  rcases h with (h | ⟨o, h⟩) | h
  · exact .inl (.inl (e _ _ h))
  · exact .inl (.inr ⟨o, e _ _ h⟩)
  · exact .inr h
mutual
theorem dp_mono {K : Fg} {H H' : Hp} (e : Same H H') : ∀ {v : V} {d : D}, Dq K H v d → Dq K H' v d
  | _, _, .non => .non
  | _, _, .bl b => .bl b
  | _, _, .int i => .int i
  | _, _, .str x => .str x
  | _, _, .lst h a => .lst (e.seq h) (dpAll_mono e a)
  | _, _, .tup h a => .tup (h.mono e) (dpAll_mono e a)
theorem dpAll_mono {K : Fg} {H H' : Hp} (e : Same H H') : ∀ {vs : List V} {ds : List D}, DqAll K H vs ds → DqAll K H' vs ds
  | _, _, .nil => .nil
  | _, _, .cons a b => .cons (dp_mono e a) (dpAll_mono e b)
end
section
variable {K : Fg} {H H' : Hp} {v : V} {vs ws : List V} {d : D} {ds es : List D}
theorem DqAll.len (h : DqAll K H vs ds) : vs.length = ds.length := by
  induction vs generalizing ds with
  | nil => cases h; rfl
  | cons v vs ih => cases h with | cons a b => rw [List.length_cons, List.length_cons, ih b]
theorem DqAll.get (h : DqAll K H vs ds) {i : Nat} {d : D} (e : ds[i]? = some d) : ∃ v, vs[i]? = some v ∧ Dq K H v d := by
  induction vs generalizing ds i with
  | nil => cases h; cases e
  | cons v vs ih =>
    cases h with
    | cons a b =>
      cases i with
      | zero => cases e; exact ⟨v, rfl, a⟩
      | succ i => exact ih b (by simpa using e)
theorem DqAll.getV (h : DqAll K H vs ds) {i : Nat} {v : V} (e : vs[i]? = some v) : ∃ d, ds[i]? = some d ∧ Dq K H v d := by
  induction vs generalizing ds i with
  | nil => cases e
  | cons v vs ih =>
    cases h with
    | cons a b =>
      cases i with
      | zero => cases e; exact ⟨_, rfl, a⟩
      | succ i => exact ih b (by simpa using e)
theorem DqAll.app (h : DqAll K H vs ds) (h' : DqAll K H ws es) : DqAll K H (vs ++ ws) (ds ++ es) := by
  induction vs generalizing ds with
  | nil => cases h; exact h'
  | cons v vs ih => cases h with | cons a b => exact .cons a (ih b)
theorem DqAll.drop (h : DqAll K H vs ds) (n : Nat) : DqAll K H (vs.drop n) (ds.drop n) := by
  induction n generalizing vs ds with
  | zero => exact h
  | succ n ih => cases h with
    | nil => exact .nil
    | cons a b => exact ih b
theorem DqAll.take (h : DqAll K H vs ds) (n : Nat) : DqAll K H (vs.take n) (ds.take n) := by
  induction n generalizing vs ds with
  | zero => exact .nil
  | succ n ih => cases h with
    | nil => exact .nil
    | cons a b => exact .cons a (ih b)
theorem DqAll.rev (h : DqAll K H vs ds) : DqAll K H vs.reverse ds.reverse := by
  induction vs generalizing ds with
  | nil => cases h; exact .nil
  | cons v vs ih => cases h with
    | cons a b => rw [List.reverse_cons, List.reverse_cons]; exact (ih b).app (.cons a .nil)
theorem dp_int {v : V} {i : Int} (h : Dq K H v (.int i)) : v = .int i := by cases h; rfl
theorem dp_str {v : V} {x : Str} (h : Dq K H v (.str x)) : v = .str x := by cases h; rfl
theorem dp_bl {v : V} {b : Bool} (h : Dq K H v (.bool b)) : v = .bl b := by cases h; rfl
theorem dp_non {v : V} (h : Dq K H v .none) : v = .non := by cases h; rfl
theorem dp_tup {v : V} {ds : List D} (h : Dq K H v (.tuple ds)) : ∃ a vs, v = .ref a ∧ PlT K H a vs ∧ DqAll K H vs ds := by
  cases h with | tup h a => exact ⟨_, _, rfl, h, a⟩
theorem dp_lst {v : V} {ds : List D} (h : Dq K H v (.list ds)) : ∃ a vs, v = .ref a ∧ SqL K H a vs ∧ DqAll K H vs ds := by
  cases h with | lst h a => exact ⟨_, _, rfl, h, a⟩
theorem dpAll_ints : ∀ {ns : List Int} {vs : List V}, DqAll K H vs (ns.map .int) → vs = ns.map V.int
  | [], _, h => by cases h; rfl
  | n :: ns, _, h => by
    cases h with | cons a b => rw [dp_int a, dpAll_ints b]; rfl
theorem dpAll_strs : ∀ {ns : List Str} {vs : List V}, DqAll K H vs (ns.map .str) → vs = ns.map V.str
  | [], _, h => by cases h; rfl
  | n :: ns, _, h => by
    cases h with | cons a b => rw [dp_str a, dpAll_strs b]; rfl
theorem dpAll_bls : ∀ {ns : List Bool} {vs : List V}, DqAll K H vs (ns.map .bool) → vs = ns.map V.bl
  | [], _, h => by cases h; rfl
  | n :: ns, _, h => by
    cases h with | cons a b => rw [dp_bl a, dpAll_bls b]; rfl
theorem dpAll_strs' {ns : List Str} : DqAll K H (ns.map V.str) (ns.map .str) := by
  induction ns with
  | nil => exact .nil
  | cons n ns ih => exact .cons (.str n) ih
theorem dpAll_ints' {ns : List Int} : DqAll K H (ns.map V.int) (ns.map .int) := by
  induction ns with
  | nil => exact .nil
  | cons n ns ih => exact .cons (.int n) ih
end

/-! ### slots -/
/-- a slot: not known; data; a value as it is -/
inductive Sl where
  | u
  | d (x : D)
  | v (x : V)
abbrev Env := List Sl
def SlR (K : Fg) (Hs : Hp) : Option V → Sl → Prop
  | _, .u => True
  | o, .d x => ∃ v, o = some v ∧ Dq K Hs v x
  | o, .v x => o = some x
def EnvR (K : Fg) (Hs : Hp) (σ : L2.St) (ρ : Env) : Prop := σ.length = ρ.length ∧ ∀ (i : Nat) (o : Option V) (s : Sl), σ[i]? = some o → ρ[i]? = some s → SlR K Hs o s
section
variable {K : Fg} {Hs Hs' : Hp} {σ : L2.St} {ρ : Env}
theorem SlR.mono {o : Option V} {s : Sl} (e : Same Hs Hs') (h : SlR K Hs o s) : SlR K Hs' o s := by
  cases s with
  | u => trivial
  | d x => obtain ⟨v, a, b⟩ := h; exact ⟨v, a, dp_mono e b⟩
  | v x => exact h
theorem EnvR.mono (e : Same Hs Hs') (h : EnvR K Hs σ ρ) : EnvR K Hs' σ ρ := ⟨h.1, fun i o s a b => (h.2 i o s a b).mono e⟩
theorem EnvR.get (h : EnvR K Hs σ ρ) {i : Nat} {x : D} (e : ρ[i]? = some (.d x)) : ∃ v, σ[i]? = some (some v) ∧ Dq K Hs v x := by
  have hi : i < σ.length := by rw [h.1]; exact (List.getElem?_eq_some_iff.mp e).1
  obtain ⟨v, a, b⟩ := h.2 i _ _ (List.getElem?_eq_getElem hi) e
  exact ⟨v, by rw [List.getElem?_eq_getElem hi, a], b⟩
theorem EnvR.getV (h : EnvR K Hs σ ρ) {i : Nat} {x : V} (e : ρ[i]? = some (.v x)) : σ[i]? = some (some x) := by
  have hi : i < σ.length := by rw [h.1]; exact (List.getElem?_eq_some_iff.mp e).1
  have a := h.2 i _ _ (List.getElem?_eq_getElem hi) e
  rw [List.getElem?_eq_getElem hi]
  exact congrArg some a
theorem EnvR.set (h : EnvR K Hs σ ρ) (i : Nat) {o : Option V} {s : Sl} (r : SlR K Hs o s) : EnvR K Hs (σ.set i o) (ρ.set i s) := by
  refine ⟨by rw [List.length_set, List.length_set]; exact h.1, fun j o' s' a b => ?_⟩
  by_cases e : i = j
  · subst e
    have hi : i < σ.length := by
      have := (List.getElem?_eq_some_iff.mp a).1
      rwa [List.length_set] at this
    rw [List.getElem?_set_self hi] at a
    rw [List.getElem?_set_self (by rw [← h.1]; exact hi)] at b
    cases a; cases b; exact r
  · rw [List.getElem?_set_ne e] at a b
    exact h.2 j o' s' a b
theorem EnvR.weak {ρ' : Env} (h : EnvR K Hs σ ρ) (hl : ρ'.length = ρ.length) (w : ∀ (i : Nat) (s : Sl), ρ'[i]? = some s → s = .u ∨ ρ[i]? = some s) : EnvR K Hs σ ρ' := by
  refine ⟨h.1.trans hl.symm, fun i o s a b => ?_⟩
  rcases w i s b with e | e
  · subst e; exact trivial
  · exact h.2 i o s a e
def wipeE (ρ : Env) : List Nat → Env
  | [] => ρ
  | v :: vs => (wipeE ρ vs).set v .u
theorem EnvR.wipe (h : EnvR K Hs σ ρ) : ∀ vs : List Nat, EnvR K Hs (L2.wipe σ vs) (wipeE ρ vs)
  | [] => h
  | v :: vs => (h.wipe vs).set v (o := none) (s := .u) trivial
end

/-! ### things that change: a memory beside the shared data -/
inductive MO where
  | lst (ss : List Sl)
  | dct (kvs : List (Key × Sl))
  | ins (C dx : Addr) (fs : List (Str × Sl))
  | own (x : Addr)
abbrev Mem := Addr → Option MO
def mup (M : Mem) (a : Addr) (o : MO) : Mem := fun b => if b = a then some o else M b
def mdel (M : Mem) (a : Addr) : Mem := fun b => if b = a then none else M b
def m0 : Mem := fun _ => none
theorem mup_same {M : Mem} {a : Addr} {o : MO} : mup M a o a = some o := by unfold mup; rw [if_pos rfl]
theorem mup_ne {M : Mem} {a b : Addr} {o : MO} (h : b ≠ a) : mup M a o b = M b := by unfold mup; rw [if_neg h]
theorem mup_mup {M : Mem} {a : Addr} {o u : MO} : mup (mup M a o) a u = mup M a u := by
  funext b; unfold mup; split <;> rfl
theorem mne {M : Mem} {a b : Addr} {o : MO} (h : M a = some o) (h' : M b = none) : a ≠ b := by intro e; subst e; rw [h] at h'; cases h'
def SlV (K : Fg) (Hs : Hp) (v : V) (s : Sl) : Prop := SlR K Hs (some v) s
theorem SlV.mono {K : Fg} {Hs Hs' : Hp} {v : V} {s : Sl} (e : Same Hs Hs') (h : SlV K Hs v s) : SlV K Hs' v s := SlR.mono e h
theorem slv_d {K : Fg} {Hs : Hp} {v : V} {d : D} (h : Dq K Hs v d) : SlV K Hs v (.d d) := ⟨v, rfl, h⟩
theorem slv_v {K : Fg} {Hs : Hp} {v : V} : SlV K Hs v (.v v) := rfl
theorem SlV.dp {K : Fg} {Hs : Hp} {v : V} {d : D} (h : SlV K Hs v (.d d)) : Dq K Hs v d := by
  obtain ⟨w, e, p⟩ := h; cases e; exact p
def RepO (K : Fg) (Hs : Hp) : HO → MO → Prop
  | .lst vs, .lst ss => Paired (SlV K Hs) vs ss
  | .dK kvs, .dct ks => Paired (fun (p : Key × V) (q : Key × Sl) => p.1 = q.1 ∧ SlV K Hs p.2 q.2) kvs ks
  | .ins C dx fs, .ins C' dx' gs => C = C' ∧ dx = dx' ∧ Paired (fun (p : Str × V) (q : Str × Sl) => p.1 = q.1 ∧ SlV K Hs p.2 q.2) fs gs
  | .own x, .own y => x = y
  | _, _ => False
theorem RepO.mono {K : Fg} {Hs Hs' : Hp} {o : HO} {m : MO} (e : Same Hs Hs') (h : RepO K Hs o m) : RepO K Hs' o m := by
  cases o <;> cases m <;> first
    | exact Paired.mapP h fun _ _ q => q.mono e
    | exact Paired.mapP h fun _ _ q => ⟨q.1, q.2.mono e⟩
    | exact ⟨h.1, h.2.1, Paired.mapP h.2.2 fun _ _ q => ⟨q.1, q.2.mono e⟩⟩
    | exact h
theorem paired_app {α β : Type} {F : α → β → Prop} {l₁ m₁ : List α} {l₂ m₂ : List β} (h : Paired F l₁ l₂) (h' : Paired F m₁ m₂) : Paired F (l₁ ++ m₁) (l₂ ++ m₂) := by
  induction l₁ generalizing l₂ with
  | nil => cases h; exact h'
  | cons a l ih => cases h with | cons x y => exact .cons x (ih y)
structure RelM (K : Fg) (Hs H : Hp) (M : Mem) : Prop where
  i : Same Hs H
  m : ∀ a mo, M a = some mo → Hs a = none ∧ ∃ o, H a = some o ∧ RepO K Hs o mo
section
variable {K : Fg} {Hs H Hs' H' : Hp} {M : Mem}
theorem RelM.grow (r : RelM K Hs H M) (g : Grow Hs H Hs' H') : RelM K Hs' H' M :=
  ⟨g.i, fun a mo e => by
    obtain ⟨h1, o, h2, h3⟩ := r.m a mo e
    exact ⟨g.n a h1 (by rw [h2]; intro z; cases z), o, g.h a o h2, h3.mono g.s⟩⟩
/-- nothing is owned -/
theorem RelM.none (i : Same Hs H) : RelM K Hs H m0 := ⟨i, fun _ _ e => nomatch e⟩
end

instance {K : Fg} {Hs H : Hp} {M : Mem} : CoeOut (RelM K Hs H M) (Same Hs H) := ⟨fun r => r.i⟩
/-! ### the weakest readings -/
section
variable {X : Cx} {M : Mem} {e : Expr} {es : List Expr} {st : Stmt} {sts : List Stmt}
def tWe (X : Cx) (e : Expr) : TE := fun σ H Q => ∀ pins s, Inv X pins σ H s → wpAny (model X.prog X.w) X.A (eval e X.env) (EP X pins σ Q) X.xe s
def tWa (X : Cx) (es : List Expr) : TA := fun σ H Q => ∀ pos pins s, Inv X pins σ H s → wpAny (model X.prog X.w) X.A (spliced (backTo pos (starEach es X.env))) (AP X pins σ Q) X.xe s
def tWt (X : Cx) (e : Expr) : TT := fun σ H Q => ∀ pins s, Inv X pins σ H s → wpAny (model X.prog X.w) X.A (isTrue e X.env (eval e X.env)) (TP X pins σ Q) X.xe s
def tWw (X : Cx) (e : Expr) : TT := fun σ H Q => ∀ whole pins s, Inv X pins σ H s → wpAny (model X.prog X.w) X.A (isTrue e X.env whole) (TP X pins σ Q) X.xe s
def tWs (X : Cx) (st : Stmt) : TS := fun D σ H => ∀ pins s, Inv X pins σ H s → wpAny (model X.prog X.w) X.A (exec st X.env) (SP X pins D) X.xe s
def tWss (X : Cx) (sts : List Stmt) : TS := fun D σ H => ∀ pins s, Inv X pins σ H s → wpAny (model X.prog X.w) X.A (execs sts X.env) (SP X pins D) X.xe s
def tWi (X : Cx) (tg iter : Expr) : TI := fun σ H R => ∀ pins s, Inv X pins σ H s → wpAny (model X.prog X.w) X.A (eval iter X.env) (fun v s1 => wpAny (model X.prog X.w) X.A (pyIter v) (PIE X pins σ tg R) X.xe s1) X.xe s
def tWg (X : Cx) (tg : Expr) : TG := fun v σ H Q => ∀ pins s u, Inv X pins σ H s → RelV v u → wpAny (model X.prog X.w) X.A (assign tg X.env u) (fun _ s' => ∃ σ' H', Inv X pins σ' H' s' ∧ Q σ' H') X.xe s
theorem pe_w : PE X e (tWe X e) := ⟨fun pins s _ _ _ I h => h pins s I⟩
theorem pa_w : PA X es (tWa X es) := ⟨fun pos pins s _ _ _ I h => h pos pins s I⟩
theorem pt_w : PT X e (tWt X e) := ⟨fun pins s _ _ _ I h => h pins s I⟩
theorem pw_w : PW X e (tWw X e) := ⟨fun wh pins s _ _ _ I h => h wh pins s I⟩
theorem ps_w : PS X st (tWs X st) := ⟨fun pins s _ _ _ I h => h pins s I⟩
theorem pss_w : PSs X sts (tWss X sts) := ⟨fun pins s _ _ _ I h => h pins s I⟩
theorem pi_w {tg : Expr} : PI X tg e (tWi X tg e) := ⟨fun pins s _ _ _ I h => h pins s I⟩
theorem pg_w {tg : Expr} : PG X tg (tWg X tg) := ⟨fun pins s _ _ _ u _ I r h => h pins s u I r⟩
theorem _root_.L2.PE.w {t : TE} (h : PE X e t) {σ : L2.St} {H : Hp} {Q : VK} (q : t σ H Q) : tWe X e σ H Q := fun pins s I => h.run pins s σ H Q I q
theorem _root_.L2.PA.w {t : TA} (h : PA X es t) {σ : L2.St} {H : Hp} {Q : List V → Hp → Prop} (q : t σ H Q) : tWa X es σ H Q := fun pos pins s I => h.run pos pins s σ H Q I q
theorem _root_.L2.PT.w {t : TT} (h : PT X e t) {σ : L2.St} {H : Hp} {Q : Bool → Hp → Prop} (q : t σ H Q) : tWt X e σ H Q := fun pins s I => h.run pins s σ H Q I q
theorem _root_.L2.PW.w {t : TT} (h : PW X e t) {σ : L2.St} {H : Hp} {Q : Bool → Hp → Prop} (q : t σ H Q) : tWw X e σ H Q := fun wh pins s I => h.run wh pins s σ H Q I q
theorem _root_.L2.PS.w {t : TS} (h : PS X st t) {σ : L2.St} {H : Hp} {Q : Ends} (q : t Q σ H) : tWs X st Q σ H := fun pins s I => h.run pins s σ H Q I q
theorem _root_.L2.PSs.w {t : TS} (h : PSs X sts t) {σ : L2.St} {H : Hp} {Q : Ends} (q : t Q σ H) : tWss X sts Q σ H := fun pins s I => h.run pins s σ H Q I q
theorem _root_.L2.PI.w {tg : Expr} {t : TI} (h : PI X tg e t) {σ : L2.St} {H : Hp} {Q : It → Hp → Prop} (q : t σ H Q) : tWi X tg e σ H Q := fun pins s I => h.run pins s σ H Q I q
theorem _root_.L2.PG.w {tg : Expr} {t : TG} (h : PG X tg t) {v : V} {σ : L2.St} {H : Hp} {Q : L2.St → Hp → Prop} (q : t v σ H Q) : tWg X tg v σ H Q := fun pins s u I r => h.run pins s σ H v u Q I r q
end

/-! ### judgements by data -/
/-- e is the data d -/
structure PD (X : Cx) (e : Expr) (ρ : Env) (M : Mem) (d : D) : Prop where
  run : ∀ (Hs H : Hp) (σ : L2.St) (Q : VK), RelM X.K Hs H M → EnvR X.K Hs σ ρ → (∀ v Hs' H', Grow Hs H Hs' H' → Dq X.K Hs' v d → Q v H') → tWe X e σ H Q
structure PDs (X : Cx) (es : List Expr) (ρ : Env) (M : Mem) (ds : List D) : Prop where
  run : ∀ (Hs H : Hp) (σ : L2.St) (Q : List V → Hp → Prop), RelM X.K Hs H M → EnvR X.K Hs σ ρ → (∀ vs Hs' H', Grow Hs H Hs' H' → DqAll X.K Hs' vs ds → Q vs H') → tWa X es σ H Q
structure PTD (X : Cx) (e : Expr) (ρ : Env) (M : Mem) (b : Bool) : Prop where
  run : ∀ (Hs H : Hp) (σ : L2.St) (Q : Bool → Hp → Prop), RelM X.K Hs H M → EnvR X.K Hs σ ρ → (∀ Hs' H', Grow Hs H Hs' H' → Q b H') → tWt X e σ H Q
structure PWD (X : Cx) (e : Expr) (ρ : Env) (M : Mem) (b : Bool) : Prop where
  run : ∀ (Hs H : Hp) (σ : L2.St) (Q : Bool → Hp → Prop), RelM X.K Hs H M → EnvR X.K Hs σ ρ → (∀ Hs' H', Grow Hs H Hs' H' → Q b H') → tWw X e σ H Q
/-- what a two-place reading does on data; a call; one value -/
def RD (K : Fg) (r : R2) (x y d : D) : Prop := ∀ (Hs H : Hp) (v u : V) (Q : VK), Same Hs H → Dq K Hs v x → Dq K Hs u y → (∀ z Hs' H', Grow Hs H Hs' H' → Dq K Hs' z d → Q z H') → r v u H Q
def UD (K : Fg) (r : V → Hp → VK → Prop) (x d : D) : Prop := ∀ (Hs H : Hp) (v : V) (Q : VK), Same Hs H → Dq K Hs v x → (∀ z Hs' H', Grow Hs H Hs' H' → Dq K Hs' z d → Q z H') → r v H Q
def CD (K : Fg) (r : List V → Hp → VK → Prop) (xs : List D) (d : D) : Prop := ∀ (Hs H : Hp) (vs : List V) (Q : VK), Same Hs H → DqAll K Hs vs xs → (∀ z Hs' H', Grow Hs H Hs' H' → Dq K Hs' z d → Q z H') → r vs H Q
def MD (K : Fg) (r : V → List V → Hp → VK → Prop) (x : D) (xs : List D) (d : D) : Prop := ∀ (Hs H : Hp) (v : V) (vs : List V) (Q : VK), Same Hs H → Dq K Hs v x → DqAll K Hs vs xs → (∀ z Hs' H', Grow Hs H Hs' H' → Dq K Hs' z d → Q z H') → r v vs H Q
section
variable {X : Cx} {M : Mem} {e a b : Expr} {es : List Expr} {ρ : Env} {d x y z : D} {ds : List D} {pos : Pos}
theorem PD.eq (h : PD X e ρ M d) {d' : D} (q : d = d') : PD X e ρ M d' := q ▸ h
theorem PTD.eq {b b' : Bool} (h : PTD X e ρ M b) (q : b = b') : PTD X e ρ M b' := q ▸ h
theorem PD.env (h : PD X e ρ M d) {ρ' : Env} (hl : ρ.length = ρ'.length) (w : ∀ (i : Nat) (s : Sl), ρ[i]? = some s → s = .u ∨ ρ'[i]? = some s) : PD X e ρ' M d := ⟨fun Hs H σ Q i r k => h.run Hs H σ Q i (r.weak hl w) k⟩
theorem pd_of {t : TE} (h : PE X e t) (q : ∀ (Hs H : Hp) (σ : L2.St) (Q : VK), RelM X.K Hs H M → EnvR X.K Hs σ ρ → (∀ v Hs' H', Grow Hs H Hs' H' → Dq X.K Hs' v d → Q v H') → t σ H Q) : PD X e ρ M d :=
  ⟨fun Hs H σ Q i r k => h.w (q Hs H σ Q i r k)⟩
theorem ptd_of {t : TT} {c : Bool} (h : PT X e t) (q : ∀ (Hs H : Hp) (σ : L2.St) (Q : Bool → Hp → Prop), RelM X.K Hs H M → EnvR X.K Hs σ ρ → (∀ Hs' H', Grow Hs H Hs' H' → Q c H') → t σ H Q) : PTD X e ρ M c :=
  ⟨fun Hs H σ Q i r k => PT.w h (q Hs H σ Q i r k)⟩
/-! names, constants -/
theorem pdv (i : Nat) {x : Str} {pos : Pos} (h : ρ[i]? = some (.d d) := by rfl) (hN : X.N[i]? = some x := by rfl) (hv : Vis X.env.scope x := by first | exact Or.inl rfl | exact Or.inr (Or.inl rfl) | exact Or.inr (Or.inr rfl)) (hd : (x == ("__debug__" : Str)) = false := by decide)
    (hcd : (x == ("__classdict__" : Str)) = false := by decide) : PD X (.Name x pos) ρ M d :=
  pd_of (pe_var hN hv hd hcd) fun Hs H σ Q i r k => by
    obtain ⟨v, e1, e2⟩ := r.get h
    exact ⟨v, e1, k v Hs H (.refl i) e2⟩
theorem pd_int {i j pos} : PD X (.Constant (.int i) j pos) ρ M (.int i) := pd_of pe_int fun Hs H _ _ i _ k => k _ Hs H (.refl i) (.int _)
theorem pd_bl {b j pos} : PD X (.Constant (.bool b) j pos) ρ M (.bool b) := pd_of pe_bl fun Hs H _ _ i _ k => k _ Hs H (.refl i) (.bl _)
theorem pd_non {j pos} : PD X (.Constant .none j pos) ρ M .none := pd_of pe_non fun Hs H _ _ i _ k => k _ Hs H (.refl i) .non
theorem pd_str {x j pos} : PD X (.Constant (.str x) j pos) ρ M (.str x) := pd_of pe_str fun Hs H _ _ i _ k => k _ Hs H (.refl i) (.str _)
theorem pd_glob {x : Str} {v : V} {u : Value} {pos : Pos} (hg : Gl X x) (hm : X.mg x = some u) (r : RelV v u) (hv : ∀ H, Dq X.K H v d) (hd : (x == ("__debug__" : Str)) = false := by decide) : PD X (.Name x pos) ρ M d :=
  pd_of (pe_glob hg hm r hd) fun Hs H _ _ i _ k => k _ Hs H (.refl i) (hv _)
/-! arguments -/
theorem pds_nil : PDs X [] ρ M [] := ⟨fun Hs H σ Q i _ k => PA.w pa_nil (k [] Hs H (.refl i) .nil)⟩
theorem pds_cons (ha : PD X e ρ M d) (hr : PDs X es ρ M ds) (hs : starEach (e :: es) X.env = (false, eval e X.env) :: starEach es X.env := by rfl) : PDs X (e :: es) ρ M (d :: ds) :=
  ⟨fun Hs H σ Q i r k => PA.w (pa_cons pe_w pa_w hs) (ha.run Hs H σ _ i r fun v Hs1 H1 g1 p1 => hr.run Hs1 H1 σ _ (i.grow g1) (r.mono g1.s) fun vs Hs2 H2 g2 p2 => k _ Hs2 H2 (g1.trans g2) (.cons (dp_mono g2.s p1) p2))⟩
theorem pd_tup {x1} (h : PDs X es ρ M ds) (hz : ds.length ≤ sizeLine := by exact Nat.le_of_ble_eq_true rfl) : PD X (.Tuple es x1 pos) ρ M (.tuple ds) :=
  pd_of (pe_tupF pa_w) fun Hs H σ Q i r k => h.run Hs H σ _ i r fun vs Hs1 H1 g1 p1 => ⟨by rw [p1.len]; exact hz, fun p o hp ho => k _ _ _ (g1.trans (.new g1.i hp)) (.tup (.of upd_same ho) (dpAll_mono (same_upd (g1.i.free hp)) p1))⟩
theorem pd_lst (h : PDs X es ρ M ds) (hz : ds.length ≤ sizeLine := by exact Nat.le_of_ble_eq_true rfl) : PD X (.List es pos) ρ M (.list ds) :=
  pd_of (pe_lst pa_w) fun Hs H σ Q i r k => h.run Hs H σ _ i r fun vs Hs1 H1 g1 p1 => ⟨by rw [p1.len]; exact hz, fun p hp => k _ _ _ (g1.trans (.new g1.i hp)) (.lst (.of upd_same) (dpAll_mono (same_upd (g1.i.free hp)) p1))⟩
/-! operators -/
theorem two {r : R2} (ha : PD X a ρ M x) (hb : PD X b ρ M y) (hr : RD X.K r x y z) (Hs H : Hp) (σ : L2.St) (Q : VK) (i : RelM X.K Hs H M) (q : EnvR X.K Hs σ ρ) (k : ∀ v Hs' H', Grow Hs H Hs' H' → Dq X.K Hs' v z → Q v H') : tOp r (tWe X a) (tWe X b) σ H Q :=
  ha.run Hs H σ _ i q fun v Hs1 H1 g1 p1 => hb.run Hs1 H1 σ _ (i.grow g1) (q.mono g1.s) fun u Hs2 H2 g2 p2 => hr Hs2 H2 v u Q g2.i (dp_mono g2.s p1) p2 fun z Hs3 H3 g3 p3 => k z Hs3 H3 ((g1.trans g2).trans g3) p3
theorem pd_op {op : Operator} {r : R2} (ho : OpR X (binaryOp op) r) (hr : RD X.K r x y z) (ha : PD X a ρ M x) (hb : PD X b ρ M y) : PD X (.BinOp a op b pos) ρ M z := pd_of (pe_op ho pe_w pe_w) (two ha hb hr)
theorem pd_un {op : UnaryOp} {r : V → Hp → VK → Prop} (ho : UnR X (unaryOp op) r) (hr : UD X.K r x z) (ha : PD X a ρ M x) : PD X (.UnaryOp op a pos) ρ M z :=
  pd_of (pe_un ho pe_w) fun Hs H σ Q i q k => ha.run Hs H σ _ i q fun v Hs1 H1 g1 p1 => hr Hs1 H1 v Q g1.i p1 fun z Hs3 H3 g3 p3 => k z Hs3 H3 (g1.trans g3) p3
theorem pd_cmp {op : CmpOp} {r : R2} (ho : OpR X (compareOp op) r) (hr : RD X.K r x y z) (ha : PD X a ρ M x) (hb : PD X b ρ M y) (hm : behindInMarks op b = false := by first | exact nobehind _ (by decide) (by decide) | rfl) : PD X (.Compare a [op] [b] pos) ρ M z := pd_of (pe_cmpR ho pe_w pe_w hm) (two ha hb hr)
theorem ptd_cmp {op : CmpOp} {r : R2} {c : Bool} (ho : OpR X (compareOp op) r) (hr : RD X.K r x y (.bool c)) (ha : PD X a ρ M x) (hb : PD X b ρ M y) (hm : behindInMarks op b = false := by first | exact nobehind _ (by decide) (by decide) | rfl) : PTD X (.Compare a [op] [b] pos) ρ M c :=
  ptd_of (pt_cmpR ho pe_w pe_w hm) fun Hs H σ Q i q k => two ha hb hr Hs H σ _ i q fun v Hs1 H1 g1 p1 => ⟨c, dp_bl p1, k Hs1 H1 g1⟩
theorem pd_ix {r : R2} (ho : IxR X r) (hr : RD X.K r x y z) (ha : PD X a ρ M x) (hb : PD X b ρ M y) (hs : PlainIx b := by exact fun _ _ => rfl) : PD X (.Subscript a b pos) ρ M z := pd_of (pe_ix ho pe_w pe_w hs) (two ha hb hr)
theorem rd_I0 {K : Fg} {g : Int → Int → V} {i j : Int} (h : ∀ H, Dq K H (g i j) d) : RD K (rI0 g) (.int i) (.int j) d := fun Hs H v u Q s p q k => ⟨i, j, dp_int p, dp_int q, k _ Hs H (.refl s) (h _)⟩
theorem rd_I {K : Fg} {C : Int → Int → Prop} {g : Int → Int → V} {i j : Int} (hc : C i j) (h : ∀ H, Dq K H (g i j) d) : RD K (rI C g) (.int i) (.int j) d := fun Hs H v u Q s p q k => ⟨i, j, dp_int p, dp_int q, hc, k _ Hs H (.refl s) (h _)⟩
theorem pd_add {i j : Int} (ha : PD X a ρ M (.int i)) (hb : PD X b ρ M (.int j)) : PD X (.BinOp a .Add b pos) ρ M (.int (i + j)) := pd_op op_add (rd_I0 fun _ => .int _) ha hb
theorem pd_sub {i j : Int} (ha : PD X a ρ M (.int i)) (hb : PD X b ρ M (.int j)) : PD X (.BinOp a .Sub b pos) ρ M (.int (i - j)) := pd_op op_sub (rd_I0 fun _ => .int _) ha hb
theorem pd_mulL {i j : Int} (ha : PD X a ρ M (.int i)) (hb : PD X b ρ M (.int j)) (h : -(2 ^ 64) < i ∧ i < 2 ^ 64) : PD X (.BinOp a .Mult b pos) ρ M (.int (i * j)) := pd_op op_mul (rd_I (.inl h) fun _ => .int _) ha hb
theorem pd_mulR {i j : Int} (ha : PD X a ρ M (.int i)) (hb : PD X b ρ M (.int j)) (h : -(2 ^ 64) < j ∧ j < 2 ^ 64) : PD X (.BinOp a .Mult b pos) ρ M (.int (i * j)) := pd_op op_mul (rd_I (.inr h) fun _ => .int _) ha hb
theorem pd_div {i j : Int} (ha : PD X a ρ M (.int i)) (hb : PD X b ρ M (.int j)) (h : 0 < j ∧ j < 1073741824) : PD X (.BinOp a .FloorDiv b pos) ρ M (.int (i / j)) := pd_op op_fdiv (rd_I h fun _ => .int _) ha hb
theorem pd_mod {i j : Int} (ha : PD X a ρ M (.int i)) (hb : PD X b ρ M (.int j)) (h : 0 < j) : PD X (.BinOp a .Mod b pos) ρ M (.int (i % j)) := pd_op op_mod (rd_I h fun _ => .int _) ha hb
theorem pd_neg {i : Int} (ha : PD X a ρ M (.int i)) : PD X (.UnaryOp .USub a pos) ρ M (.int (-i)) := pd_un un_neg (fun Hs H v Q s p k => ⟨i, dp_int p, k _ Hs H (.refl s) (.int _)⟩) ha
end
end AB
namespace AB
open PySem L2
section
variable {X : Cx} {M : Mem} {e a b c : Expr} {es rest : List Expr} {ρ : Env} {d x y z : D} {ds : List D} {pos : Pos}
/-! ### truth -/
theorem pd_one {op} (h : PD X a ρ M d) : PD X (.BoolOp op [a] pos) ρ M d := pd_of (pe_one pe_w) fun Hs H σ Q i r k => h.run Hs H σ Q i r k
theorem pd_and {u v : Bool} (ha : PD X a ρ M (.bool u)) (hb : u = true → PD X (.BoolOp .And (b :: rest) pos) ρ M (.bool v)) : PD X (.BoolOp .And (a :: b :: rest) pos) ρ M (.bool (u && v)) :=
  pd_of (pe_and pe_w pe_w) fun Hs H σ Q i r k => ha.run Hs H σ _ i r fun w Hs1 H1 g1 p1 => ⟨u, dp_bl p1, by
    cases u with
    | true => exact iteT ((hb rfl).run Hs1 H1 σ Q (i.grow g1) (r.mono g1.s) fun w Hs2 H2 g2 p2 => k w Hs2 H2 (g1.trans g2) p2)
    | false => exact iteF (k _ Hs1 H1 g1 (.bl _))⟩
theorem pd_or {u v : Bool} (ha : PD X a ρ M (.bool u)) (hb : u = false → PD X (.BoolOp .Or (b :: rest) pos) ρ M (.bool v)) : PD X (.BoolOp .Or (a :: b :: rest) pos) ρ M (.bool (u || v)) :=
  pd_of (pe_or pe_w pe_w) fun Hs H σ Q i r k => ha.run Hs H σ _ i r fun w Hs1 H1 g1 p1 => ⟨u, dp_bl p1, by
    cases u with
    | false => exact iteF ((hb rfl).run Hs1 H1 σ Q (i.grow g1) (r.mono g1.s) fun w Hs2 H2 g2 p2 => k w Hs2 H2 (g1.trans g2) p2)
    | true => exact iteT (k _ Hs1 H1 g1 (.bl _))⟩
theorem pd_not {u : Bool} (ha : PD X a ρ M (.bool u)) : PD X (.UnaryOp .Not a pos) ρ M (.bool (!u)) :=
  pd_of (pe_not pe_w) fun Hs H σ Q i r k => ha.run Hs H σ _ i r fun w Hs1 H1 g1 p1 => ⟨u, dp_bl p1, k _ Hs1 H1 g1 (.bl _)⟩
theorem ptd_val {u : Bool} (h : PD X e ρ M (.bool u)) (he : ∀ whole, isTrue e X.env whole = (do let v ← whole; standAt e.pos; holding [v] (truthy v)) := by intro _; rfl) : PTD X e ρ M u :=
  ptd_of (pt_val pe_w he) fun Hs H σ Q i r k => h.run Hs H σ _ i r fun w Hs1 H1 g1 p1 => ⟨u, dp_bl p1, k Hs1 H1 g1⟩
theorem ptd_not {u : Bool} (h : PTD X a ρ M u) : PTD X (.UnaryOp .Not a pos) ρ M (!u) :=
  ptd_of (pt_not pt_w) fun Hs H σ Q i r k => h.run Hs H σ _ i r fun Hs1 H1 g1 => k Hs1 H1 g1
theorem PWD.pt {u : Bool} (h : PWD X e ρ M u) : PTD X e ρ M u := ⟨fun Hs H σ Q i r k pins s I => h.run Hs H σ Q i r k _ pins s I⟩
theorem pwd_and1 {u : Bool} (ha : PTD X a ρ M u) : PWD X (.BoolOp .And [a] pos) ρ M u := ⟨fun Hs H σ Q i r k => PW.w (pw_and1 pt_w) (ha.run Hs H σ Q i r k)⟩
theorem pwd_or1 {u : Bool} (ha : PTD X a ρ M u) : PWD X (.BoolOp .Or [a] pos) ρ M u := ⟨fun Hs H σ Q i r k => PW.w (pw_or1 pt_w) (ha.run Hs H σ Q i r k)⟩
theorem pwd_and {u v : Bool} (ha : PTD X a ρ M u) (hb : u = true → PWD X (.BoolOp .And (b :: rest) pos) ρ M v) : PWD X (.BoolOp .And (a :: b :: rest) pos) ρ M (u && v) :=
  ⟨fun Hs H σ Q i r k => PW.w (pw_and pt_w pw_w) (ha.run Hs H σ _ i r fun Hs1 H1 g1 => by
    cases u with
    | true => exact iteT ((hb rfl).run Hs1 H1 σ Q (i.grow g1) (r.mono g1.s) fun Hs2 H2 g2 => k Hs2 H2 (g1.trans g2))
    | false => exact iteF (k Hs1 H1 g1))⟩
theorem pwd_or {u v : Bool} (ha : PTD X a ρ M u) (hb : u = false → PWD X (.BoolOp .Or (b :: rest) pos) ρ M v) : PWD X (.BoolOp .Or (a :: b :: rest) pos) ρ M (u || v) :=
  ⟨fun Hs H σ Q i r k => PW.w (pw_or pt_w pw_w) (ha.run Hs H σ _ i r fun Hs1 H1 g1 => by
    cases u with
    | false => exact iteF ((hb rfl).run Hs1 H1 σ Q (i.grow g1) (r.mono g1.s) fun Hs2 H2 g2 => k Hs2 H2 (g1.trans g2))
    | true => exact iteT (k Hs1 H1 g1))⟩
theorem pd_ifExp {u : Bool} {c : Expr} (hc : PTD X c ρ M u) (ha : u = true → PD X a ρ M d) (hb : u = false → PD X b ρ M d) : PD X (.IfExp c a b pos) ρ M d :=
  pd_of (pe_ifExp pt_w pe_w pe_w) fun Hs H σ Q i r k => hc.run Hs H σ _ i r fun Hs1 H1 g1 => by
    cases u with
    | true => exact iteT ((ha rfl).run Hs1 H1 σ Q (i.grow g1) (r.mono g1.s) fun w Hs2 H2 g2 p2 => k w Hs2 H2 (g1.trans g2) p2)
    | false => exact iteF ((hb rfl).run Hs1 H1 σ Q (i.grow g1) (r.mono g1.s) fun w Hs2 H2 g2 p2 => k w Hs2 H2 (g1.trans g2) p2)
/-- a < b < c -/
theorem chain {op op' : CmpOp} {r r' : R2} {u v : Bool} (hr : RD X.K r x y (.bool u)) (hr' : u = true → RD X.K r' y z (.bool v)) (ha : PD X a ρ M x) (hb : PD X b ρ M y) (hc : PD X c ρ M z) (Hs H : Hp) (σ : L2.St) (Q : VK) (i : RelM X.K Hs H M) (q : EnvR X.K Hs σ ρ) (k : ∀ w Hs' H', Grow Hs H Hs' H' → Dq X.K Hs' w (.bool (u && v)) → Q w H') :
    tChain r r' (tWe X a) (tWe X b) (tWe X c) σ H Q :=
  ha.run Hs H σ _ i q fun w1 Hs1 H1 g1 p1 => hb.run Hs1 H1 σ _ (i.grow g1) (q.mono g1.s) fun w2 Hs2 H2 g2 p2 => hr Hs2 H2 w1 w2 _ g2.i (dp_mono g2.s p1) p2 fun z Hs3 H3 g3 p3 => ⟨u, dp_bl p3, by
    cases u with
    | true => exact iteT (hc.run Hs3 H3 σ _ (i.grow ((g1.trans g2).trans g3)) (q.mono ((g1.trans g2).trans g3).s) fun w4 Hs4 H4 g4 p4 => hr' rfl Hs4 H4 w2 w4 Q g4.i (dp_mono (g3.trans g4).s p2) p4 fun w Hs5 H5 g5 p5 => k w Hs5 H5 (((g1.trans g2).trans g3).trans (g4.trans g5)) p5)
    | false => exact iteF (k _ Hs3 H3 ((g1.trans g2).trans g3) (.bl _))⟩
theorem pd_chain {op op' : CmpOp} {r r' : R2} {u v : Bool} (ho : OpR X (compareOp op) r) (ho' : OpR X (compareOp op') r') (hr : RD X.K r x y (.bool u)) (hr' : u = true → RD X.K r' y z (.bool v)) (ha : PD X a ρ M x) (hb : PD X b ρ M y) (hc : PD X c ρ M z)
    (hm : lastMarks [op, op'] [b, c] = false := by with_unfolding_all rfl) : PD X (.Compare a [op, op'] [b, c] pos) ρ M (.bool (u && v)) := pd_of (pe_chain ho ho' pe_w pe_w pe_w hm) (chain (op := op) (op' := op') hr hr' ha hb hc)
theorem ptd_chain {op op' : CmpOp} {r r' : R2} {u v : Bool} (ho : OpR X (compareOp op) r) (ho' : OpR X (compareOp op') r') (hr : RD X.K r x y (.bool u)) (hr' : u = true → RD X.K r' y z (.bool v)) (ha : PD X a ρ M x) (hb : PD X b ρ M y) (hc : PD X c ρ M z)
    (hm : lastMarks [op, op'] [b, c] = false := by with_unfolding_all rfl) : PTD X (.Compare a [op, op'] [b, c] pos) ρ M (u && v) :=
  ptd_of (pt_chain ho ho' pe_w pe_w pe_w hm) fun Hs H σ Q i q k => chain (op := op) (op' := op') hr hr' ha hb hc Hs H σ _ i q fun w Hs1 H1 g1 p1 => ⟨_, dp_bl p1, k Hs1 H1 g1⟩
/-! ### comparisons -/
theorem rd_B {K : Fg} {g : Int → Int → Bool} {i j : Int} : RD K (rI0 fun i j => .bl (g i j)) (.int i) (.int j) (.bool (g i j)) := rd_I0 fun _ => .bl _
theorem rd_ltS {K : Fg} {s t : Str} : RD K (fun x y H Q => ∃ i j, x = .str i ∧ y = .str j ∧ Q (.bl (decide (i.cps.toList < j.cps.toList))) H) (.str s) (.str t) (.bool (decide (s.cps.toList < t.cps.toList))) :=
  fun Hs H v u Q i p q k => ⟨s, t, dp_str p, dp_str q, k _ Hs H (.refl i) (.bl _)⟩
theorem rd_leS {K : Fg} {s t : Str} : RD K (fun x y H Q => ∃ i j, x = .str i ∧ y = .str j ∧ Q (.bl (!decide (j.cps.toList < i.cps.toList))) H) (.str s) (.str t) (.bool (!decide (t.cps.toList < s.cps.toList))) :=
  fun Hs H v u Q i p q k => ⟨s, t, dp_str p, dp_str q, k _ Hs H (.refl i) (.bl _)⟩
theorem rd_eqD {K : Fg} (hx : SeqAt.shaped x = true) (hy : SeqAt.shaped y = true) : RD K (rEqD K) x y (.bool (PyData.eqv x y)) :=
  fun Hs H v u Q i p q k => ⟨x, y, (dp_mono i p).dp, (dp_mono i q).dp, hx, hy, k _ Hs H (.refl i) (.bl _)⟩
theorem rd_neD {K : Fg} (hx : SeqAt.shaped x = true) (hy : SeqAt.shaped y = true) : RD K (rNeD K) x y (.bool (!PyData.eqv x y)) :=
  fun Hs H v u Q i p q k => ⟨x, y, (dp_mono i p).dp, (dp_mono i q).dp, hx, hy, k _ Hs H (.refl i) (.bl _)⟩
def isNone : D → Bool
  | .none => true
  | _ => false
theorem dec_non {K : Fg} {H : Hp} {v : V} (p : Dq K H v x) : decide (v = .non) = isNone x := by cases p <;> rfl
theorem rd_isN {K : Fg} : RD K (fun x y H Q => y = .non ∧ Q (.bl (decide (x = .non))) H) x .none (.bool (isNone x)) :=
  fun Hs H v u Q i p q k => ⟨dp_non q, by rw [dec_non p]; exact k _ Hs H (.refl i) (.bl _)⟩
theorem rd_notN {K : Fg} : RD K (fun x y H Q => y = .non ∧ Q (.bl (!decide (x = .non))) H) x .none (.bool (!isNone x)) :=
  fun Hs H v u Q i p q k => ⟨dp_non q, by rw [dec_non p]; exact k _ Hs H (.refl i) (.bl _)⟩
theorem pd_eq (hu : X.A.units + 64 < cLine) (ha : PD X a ρ M x) (hb : PD X b ρ M y) (hx : SeqAt.shaped x = true) (hy : SeqAt.shaped y = true) : PD X (.Compare a [.Eq] [b] pos) ρ M (.bool (PyData.eqv x y)) := pd_cmp (op_eqD hu) (rd_eqD hx hy) ha hb
theorem pd_ne (hu : X.A.units + 64 < cLine) (ha : PD X a ρ M x) (hb : PD X b ρ M y) (hx : SeqAt.shaped x = true) (hy : SeqAt.shaped y = true) : PD X (.Compare a [.NotEq] [b] pos) ρ M (.bool (!PyData.eqv x y)) := pd_cmp (op_neD hu) (rd_neD hx hy) ha hb
theorem ptd_eq (hu : X.A.units + 64 < cLine) (ha : PD X a ρ M x) (hb : PD X b ρ M y) (hx : SeqAt.shaped x = true) (hy : SeqAt.shaped y = true) : PTD X (.Compare a [.Eq] [b] pos) ρ M (PyData.eqv x y) := ptd_cmp (op_eqD hu) (rd_eqD hx hy) ha hb
theorem ptd_ne (hu : X.A.units + 64 < cLine) (ha : PD X a ρ M x) (hb : PD X b ρ M y) (hx : SeqAt.shaped x = true) (hy : SeqAt.shaped y = true) : PTD X (.Compare a [.NotEq] [b] pos) ρ M (!PyData.eqv x y) := ptd_cmp (op_neD hu) (rd_neD hx hy) ha hb
/-- texts, ints, bools as they stand -/
def flatD : D → Bool
  | .none => true | .bool _ => true | .int _ => true | .str _ => true
  | _ => false
theorem ptd_eqS {s t : Str} (ha : PD X a ρ M (.str s)) (hb : PD X b ρ M (.str t)) : PTD X (.Compare a [.Eq] [b] pos) ρ M (decide (s = t)) :=
  ptd_cmp op_eq (fun Hs H v u Q i p q k => by cases p; cases q; exact ⟨rfl, k _ Hs H (.refl i) (by
    have : decide (V.str s = V.str t) = decide (s = t) := by
      by_cases h : s = t
      · subst h; simp
      · rw [decide_eq_false h, decide_eq_false fun q => h (V.str.inj q)]
    rw [this]; exact .bl _)⟩) ha hb
theorem ptd_neS {s t : Str} (ha : PD X a ρ M (.str s)) (hb : PD X b ρ M (.str t)) : PTD X (.Compare a [.NotEq] [b] pos) ρ M (!decide (s = t)) :=
  ptd_cmp op_ne (fun Hs H v u Q i p q k => by cases p; cases q; exact ⟨rfl, k _ Hs H (.refl i) (by
    have : decide (V.str s = V.str t) = decide (s = t) := by
      by_cases h : s = t
      · subst h; simp
      · rw [decide_eq_false h, decide_eq_false fun q => h (V.str.inj q)]
    rw [this]; exact .bl _)⟩) ha hb
theorem decV_int {i j : Int} : decide (V.int i = V.int j) = decide (i = j) := by
  by_cases h : i = j
  · subst h; simp
  · rw [decide_eq_false h, decide_eq_false fun q => h (V.int.inj q)]
theorem pd_eqI {i j : Int} (ha : PD X a ρ M (.int i)) (hb : PD X b ρ M (.int j)) : PD X (.Compare a [.Eq] [b] pos) ρ M (.bool (decide (i = j))) :=
  pd_cmp op_eq (fun Hs H v u Q s p q k => by cases p; cases q; exact ⟨rfl, k _ Hs H (.refl s) (by rw [decV_int]; exact .bl _)⟩) ha hb
theorem ptd_eqI {i j : Int} (ha : PD X a ρ M (.int i)) (hb : PD X b ρ M (.int j)) : PTD X (.Compare a [.Eq] [b] pos) ρ M (decide (i = j)) :=
  ptd_cmp op_eq (fun Hs H v u Q s p q k => by cases p; cases q; exact ⟨rfl, k _ Hs H (.refl s) (by rw [decV_int]; exact .bl _)⟩) ha hb
theorem ptd_neI {i j : Int} (ha : PD X a ρ M (.int i)) (hb : PD X b ρ M (.int j)) : PTD X (.Compare a [.NotEq] [b] pos) ρ M (!decide (i = j)) :=
  ptd_cmp op_ne (fun Hs H v u Q s p q k => by cases p; cases q; exact ⟨rfl, k _ Hs H (.refl s) (by rw [decV_int]; exact .bl _)⟩) ha hb
theorem pd_lt {i j : Int} (ha : PD X a ρ M (.int i)) (hb : PD X b ρ M (.int j)) : PD X (.Compare a [.Lt] [b] pos) ρ M (.bool (decide (i < j))) := pd_cmp op_lt rd_B ha hb
theorem ptd_lt {i j : Int} (ha : PD X a ρ M (.int i)) (hb : PD X b ρ M (.int j)) : PTD X (.Compare a [.Lt] [b] pos) ρ M (decide (i < j)) := ptd_cmp op_lt rd_B ha hb
theorem ptd_le {i j : Int} (ha : PD X a ρ M (.int i)) (hb : PD X b ρ M (.int j)) : PTD X (.Compare a [.LtE] [b] pos) ρ M (decide (i ≤ j)) := ptd_cmp op_le rd_B ha hb
theorem ptd_gt {i j : Int} (ha : PD X a ρ M (.int i)) (hb : PD X b ρ M (.int j)) : PTD X (.Compare a [.Gt] [b] pos) ρ M (decide (j < i)) := ptd_cmp op_gt rd_B ha hb
theorem ptd_ge {i j : Int} (ha : PD X a ρ M (.int i)) (hb : PD X b ρ M (.int j)) : PTD X (.Compare a [.GtE] [b] pos) ρ M (decide (j ≤ i)) := ptd_cmp op_ge rd_B ha hb
theorem pd_isN (ha : PD X a ρ M x) (hb : PD X b ρ M .none) : PD X (.Compare a [.Is] [b] pos) ρ M (.bool (isNone x)) := pd_cmp op_isN rd_isN ha hb
theorem ptd_isN (ha : PD X a ρ M x) (hb : PD X b ρ M .none) : PTD X (.Compare a [.Is] [b] pos) ρ M (isNone x) := ptd_cmp op_isN rd_isN ha hb
theorem ptd_notN (ha : PD X a ρ M x) (hb : PD X b ρ M .none) : PTD X (.Compare a [.IsNot] [b] pos) ρ M (!isNone x) := ptd_cmp op_notN rd_notN ha hb
/-! ### places, slices, + -/
theorem atI_all {K : Fg} {H : Hp} {vs : List V} (h : DqAll K H vs ds) {i : Int} (e : atI ds i = some d) : ∃ v, atI vs i = some v ∧ Dq K H v d := by
  unfold atI at e ⊢
  rw [h.len]
  cases q : ixN ds.length i with
  | none => rw [q] at e; cases e
  | some j => rw [q] at e; exact h.get e
theorem rd_ixT {K : Fg} {i : Int} (h : atI ds i = some d) : RD K (rIxT K) (.tuple ds) (.int i) d := fun Hs H v u Q s p q k => by
  obtain ⟨a, vs, rfl, ha, pa⟩ := dp_tup p
  obtain ⟨w, e, pw⟩ := atI_all pa h
  exact ⟨a, vs, i, w, rfl, dp_int q, (ha.mono s).sq, e, k _ Hs H (.refl s) pw⟩
theorem rd_ixL {K : Fg} {i : Int} (h : atI ds i = some d) : RD K (rIxL K) (.list ds) (.int i) d := fun Hs H v u Q s p q k => by
  obtain ⟨a, vs, rfl, ha, pa⟩ := dp_lst p
  obtain ⟨w, e, pw⟩ := atI_all pa h
  exact ⟨a, vs, i, w, rfl, dp_int q, s.seq ha, e, k _ Hs H (.refl s) pw⟩
theorem rd_ixS {K : Fg} {i : Int} {t : Str} {c : Nat} (hz : t.length ≤ sizeLine) (h : atI t.cps.toList i = some c) : RD K rIxS (.str t) (.int i) (.str ⟨#[c]⟩) := fun Hs H v u Q s p q k =>
  ⟨t, i, c, dp_str p, dp_int q, hz, h, k _ Hs H (.refl s) (.str _)⟩
theorem pd_ixT {i : Int} (ha : PD X a ρ M (.tuple ds)) (hb : PD X b ρ M (.int i)) (h : atI ds i = some d) (hs : PlainIx b := by exact fun _ _ => rfl) : PD X (.Subscript a b pos) ρ M d := pd_ix ix_tup (rd_ixT h) ha hb hs
theorem pd_ixL {i : Int} (ha : PD X a ρ M (.list ds)) (hb : PD X b ρ M (.int i)) (h : atI ds i = some d) (hs : PlainIx b := by exact fun _ _ => rfl) : PD X (.Subscript a b pos) ρ M d := pd_ix ix_list (rd_ixL h) ha hb hs
theorem pd_ixS {i : Int} {t : Str} {c : Nat} (ha : PD X a ρ M (.str t)) (hb : PD X b ρ M (.int i)) (hz : t.length ≤ sizeLine) (h : atI t.cps.toList i = some c) (hs : PlainIx b := by exact fun _ _ => rfl) : PD X (.Subscript a b pos) ρ M (.str ⟨#[c]⟩) := pd_ix ix_str (rd_ixS hz h) ha hb hs
/-- a slice's bound -/
structure POD (X : Cx) (e : Option Expr) (ρ : Env) (M : Mem) (o : Option Int) : Prop where
  ex : ∃ t, PO X e t ∧ ∀ (Hs H : Hp) (σ : L2.St) (Q : Option Int → Hp → Prop), RelM X.K Hs H M → EnvR X.K Hs σ ρ → (∀ Hs' H', Grow Hs H Hs' H' → Q o H') → t σ H Q
theorem pod_none : POD X none ρ M none := ⟨_, po_none, fun Hs H σ Q i _ k => k Hs H (.refl i)⟩
theorem pod_some {i : Int} (h : PD X e ρ M (.int i)) : POD X (some e) ρ M (some i) := ⟨_, po_some pe_w, fun Hs H σ Q s r k => h.run Hs H σ _ s r fun v Hs1 H1 g1 p1 => ⟨i, dp_int p1, k Hs1 H1 g1⟩⟩
def cutD {α : Type} (xs : List α) (lo hi : Option Int) : List α := (xs.drop (HT.sIx xs.length 0 lo)).take (HT.sIx xs.length xs.length hi - HT.sIx xs.length 0 lo)
def SD (K : Fg) (r : V → Option Int → Option Int → Hp → VK → Prop) (x : D) (lo hi : Option Int) (d : D) : Prop := ∀ (Hs H : Hp) (v : V) (Q : VK), Same Hs H → Dq K Hs v x → (∀ z Hs' H', Grow Hs H Hs' H' → Dq K Hs' z d → Q z H') → r v lo hi H Q
theorem pd_slice {r : V → Option Int → Option Int → Hp → VK → Prop} {lo hi : Option Expr} {l h : Option Int} {p2 : Pos} (hr : L2.SlR X r) (hd : SD X.K r x l h d) (ha : PD X e ρ M x) (hl : POD X lo ρ M l) (hh : POD X hi ρ M h) : PD X (.Subscript e (.Slice lo hi none p2) pos) ρ M d := by
  obtain ⟨tl, el, rl⟩ := hl.ex
  obtain ⟨th, eh, rh⟩ := hh.ex
  exact pd_of (pe_slice hr pe_w el eh) fun Hs H σ Q i q k => ha.run Hs H σ _ i q fun v Hs1 H1 g1 p1 => rl Hs1 H1 σ _ (i.grow g1) (q.mono g1.s) fun Hs2 H2 g2 => rh Hs2 H2 σ _ (i.grow (g1.trans g2)) (q.mono (g1.trans g2).s) fun Hs3 H3 g3 =>
    hd Hs3 H3 v Q g3.i (dp_mono (g2.trans g3).s p1) fun z Hs4 H4 g4 p4 => k z Hs4 H4 ((g1.trans g2).trans (g3.trans g4)) p4
theorem sd_tup {K : Fg} {l h : Option Int} : SD K (rSlF K) (.tuple ds) l h (.tuple (cutD ds l h)) := fun Hs H v Q s p k => by
  obtain ⟨a, vs, rfl, ha, pa⟩ := dp_tup p
  refine ⟨a, vs, rfl, (ha.mono s).sq, fun hw => ?_, fun hw p o hp ho => ?_⟩
  · have e : cutD ds l h = ds := by
      unfold cutD
      rw [pa.len] at hw
      rw [hw.1, hw.2, List.drop_zero, Nat.sub_zero]
      exact List.take_length
    rw [e] at k
    exact k _ Hs H (.refl s) (.tup ha pa)
  · have e : DqAll K Hs (cutV vs l h) (cutD ds l h) := by
      unfold cutV cutD
      rw [pa.len]
      exact (pa.drop _).take _
    exact k _ _ _ (.new s hp) (.tup (.of upd_same ho) (dpAll_mono (same_upd (s.free hp)) e))
theorem sd_lst {K : Fg} {l h : Option Int} : SD K (rSlL K) (.list ds) l h (.list (cutD ds l h)) := fun Hs H v Q s p k => by
  obtain ⟨a, vs, rfl, ha, pa⟩ := dp_lst p
  refine ⟨a, vs, rfl, s.seq ha, fun p hp => ?_⟩
  have e : DqAll K Hs (cutV vs l h) (cutD ds l h) := by
    unfold cutV cutD
    rw [pa.len]
    exact (pa.drop _).take _
  exact k _ _ _ (.new s hp) (.lst (.of upd_same) (dpAll_mono (same_upd (s.free hp)) e))
theorem sd_str {K : Fg} {l h : Option Int} {t : Str} (hz : t.length ≤ sizeLine) : SD K rSlS (.str t) l h (.str (cutS t l h)) := fun Hs H v Q s p k => ⟨t, dp_str p, hz, k _ Hs H (.refl s) (.str _)⟩
theorem pd_slT {lo hi : Option Expr} {l h : Option Int} {p2 : Pos} (ha : PD X e ρ M (.tuple ds)) (hl : POD X lo ρ M l) (hh : POD X hi ρ M h) : PD X (.Subscript e (.Slice lo hi none p2) pos) ρ M (.tuple (cutD ds l h)) := pd_slice sl_tupF sd_tup ha hl hh
theorem pd_slL {lo hi : Option Expr} {l h : Option Int} {p2 : Pos} (ha : PD X e ρ M (.list ds)) (hl : POD X lo ρ M l) (hh : POD X hi ρ M h) : PD X (.Subscript e (.Slice lo hi none p2) pos) ρ M (.list (cutD ds l h)) := pd_slice sl_list sd_lst ha hl hh
theorem pd_slS {lo hi : Option Expr} {l h : Option Int} {p2 : Pos} {t : Str} (ha : PD X e ρ M (.str t)) (hl : POD X lo ρ M l) (hh : POD X hi ρ M h) (hz : t.length ≤ sizeLine) : PD X (.Subscript e (.Slice lo hi none p2) pos) ρ M (.str (cutS t l h)) := pd_slice sl_str (sd_str hz) ha hl hh
theorem pd_catT {xs ys : List D} (ha : PD X a ρ M (.tuple xs)) (hb : PD X b ρ M (.tuple ys)) (hz : xs.length + ys.length ≤ sizeLine) : PD X (.BinOp a .Add b pos) ρ M (.tuple (xs ++ ys)) := pd_op op_catF (fun Hs H v u Q s p q k => by
  obtain ⟨a, vs, rfl, ha, pa⟩ := dp_tup p
  obtain ⟨b, us, rfl, hb, pb⟩ := dp_tup q
  refine ⟨a, b, vs, us, rfl, rfl, (ha.mono s).sq, (hb.mono s).sq, by rw [pa.len, pb.len]; exact hz, fun z => ?_, fun z1 z2 => ?_, fun z1 z2 p o hp ho => ?_⟩
  · subst z
    cases pa
    exact k _ Hs H (.refl s) (.tup hb pb)
  · subst z2
    cases pb
    rw [List.append_nil] at k
    exact k _ Hs H (.refl s) (.tup ha pa)
  · exact k _ _ _ (.new s hp) (.tup (.of upd_same ho) (dpAll_mono (same_upd (s.free hp)) (pa.app pb)))) ha hb
/-- lists, wherever they lie -/
def rCatL (K : Fg) : R2 := fun x y H Q => ∃ l b xs zs, x = .ref l ∧ y = .ref b ∧ SqL K H l xs ∧ SqL K H b zs ∧ xs.length + zs.length ≤ sizeLine ∧ ∀ p, H p = none → Q (.ref p) (upd H p (.lst (xs ++ zs)))
theorem op_catL : OpR X (binaryOp .Add) (rCatL X.K) := by
  intro pins s σ H x y v u Q I rx ry h
  obtain ⟨l, b, xs, zs, rfl, rfl, hH, hB, hz, q⟩ := h
  cases rx
  cases ry
  obtain ⟨its, r, ⟨⟨cls, dd, data, sl⟩, n, ho, hc, _, hd⟩, z⟩ := I.list hH
  obtain ⟨its2, r2, ⟨⟨cls2, dd2, data2, sl2⟩, n2, ho2, hc2, _, hd2⟩, z2⟩ := I.list hB
  simp only at hc hd hc2 hd2
  subst hc hd hc2 hd2
  have h1 := r.length
  have h2 := r2.length
  have ea : its.toArray ++ its2.toArray = (its ++ its2).toArray := by simp
  refine PySem.concat_meets ⟨_, ho, rfl⟩ ⟨_, ho2, rfl⟩ PySem.noFill_list_add PySem.seq_list_add PySem.F.slot_list_add PySem.F.entry_list_add (PySem.F.args_list_add_2 _ _) (PyProof.Rows.list_addW l b its.toArray its2.toArray n n2 dd dd2 sl sl2 (by simp; omega)) ⟨ho, ho2, ?_⟩
  rw [ea]
  exact ⟨.ref _, _, I.lnew (t' := s.toks) (r.append r2) (by rw [List.length_append]; omega), rfl, q _ I.fresh⟩
theorem pd_catL {xs ys : List D} (ha : PD X a ρ M (.list xs)) (hb : PD X b ρ M (.list ys)) (hz : xs.length + ys.length ≤ sizeLine) : PD X (.BinOp a .Add b pos) ρ M (.list (xs ++ ys)) := pd_op op_catL (fun Hs H v u Q s p q k => by
  obtain ⟨a, vs, rfl, ha, pa⟩ := dp_lst p
  obtain ⟨b, us, rfl, hb, pb⟩ := dp_lst q
  exact ⟨a, b, vs, us, rfl, rfl, s.seq ha, s.seq hb, by rw [pa.len, pb.len]; exact hz, fun p hp => k _ _ _ (.new s hp) (.lst (.of upd_same) (dpAll_mono (same_upd (s.free hp)) (pa.app pb)))⟩) ha hb
theorem pd_addS {s t : Str} (ha : PD X a ρ M (.str s)) (hb : PD X b ρ M (.str t)) (hz : s.length + t.length ≤ sizeLine) : PD X (.BinOp a .Add b pos) ρ M (.str (s ++ t)) := pd_op op_add_str (fun Hs H v u Q i p q k => ⟨s, t, dp_str p, dp_str q, hz, k _ Hs H (.refl i) (.str _)⟩) ha hb
/-! ### calls of built-ins -/
theorem pd_callB {n : Str} {p : Pos} {id : String} {r : List V → Hp → VK → Prop} (hc : CallR X (.builtin id) r) (hr : CD X.K r ds d) (hg : Gl X n) (hm : X.mg n = none) (hv : bootBuiltins n = some (.builtin id)) (ha : PDs X (e :: es) ρ M ds) (hn : n ≠ "__name__" := by decide) (hdb : (n == ("__debug__" : Str)) = false := by decide)
    (he : starEach (e :: es) X.env = (false, eval e X.env) :: starEach es X.env := by rfl) (hpl : (backTo pos (starEach es X.env)).any (·.1) = false := by rfl) : PD X (.Call (.Name n p) (e :: es) [] pos) ρ M d :=
  pd_of (pe_callB hc hg hm hv pa_w hn hdb he hpl) fun Hs H σ Q i q k => ha.run Hs H σ _ i q fun vs Hs1 H1 g1 p1 => hr Hs1 H1 vs Q g1.i p1 fun z Hs2 H2 g2 p2 => k z Hs2 H2 (g1.trans g2) p2
theorem pd_callTy {n : Str} {p : Pos} {T : String} {r : List V → Hp → VK → Prop} (hc : CallR X (.type T) r) (hr : CD X.K r ds d) (hg : Gl X n) (hm : X.mg n = none) (hv : bootBuiltins n = some (.type T)) (ha : PDs X (e :: es) ρ M ds) (hn : n ≠ "__name__" := by decide) (hdb : (n == ("__debug__" : Str)) = false := by decide)
    (he : starEach (e :: es) X.env = (false, eval e X.env) :: starEach es X.env := by rfl) (hpl : (backTo pos (starEach es X.env)).any (·.1) = false := by rfl) : PD X (.Call (.Name n p) (e :: es) [] pos) ρ M d :=
  pd_of (pe_callTy hc hg hm hv pa_w hn hdb he hpl) fun Hs H σ Q i q k => ha.run Hs H σ _ i q fun vs Hs1 H1 g1 p1 => hr Hs1 H1 vs Q g1.i p1 fun z Hs2 H2 g2 p2 => k z Hs2 H2 (g1.trans g2) p2
/-- isinstance -/
def tyN : D → String
  | .none => "NoneType" | .bool _ => "bool" | .int _ => "int" | .str _ => "str" | .list _ => "list" | .tuple _ => "tuple" | .dict _ => "dict"
theorem tyx_of {K : Fg} {H : Hp} {v : V} (p : Dq K H v d) : TyX K H v (.type (tyN d)) := by
  cases p with
  | non => exact .base .non
  | bl b => exact .base (.bl b)
  | int i => exact .base (.int i)
  | str x => exact .base (.str x)
  | lst h a =>
    rcases h with (h | ⟨o, h⟩) | ⟨o, its, n, hk, hc, _⟩
    · exact .base (.lst h)
    · exact .base (.frz h)
    · exact .kList hk hc
  | tup h a =>
    rcases h with ⟨o, h, _⟩ | ⟨o, its, n, hk, hc, _⟩
    · exact .fTuple h
    · exact .kTuple hk hc
theorem pd_isi {T : String} {n : Str} {p p2 : Pos} {u : Bool} (hg : Gl X "isinstance") (hm : X.mg "isinstance" = none) (hgT : Gl X n) (hmT : X.mg n = none) (hv : bootBuiltins n = some (.type T)) (ha : PD X e ρ M d) (hk : kitB (tyN d) T = some u)
    (hs : starEach [e, .Name n p2] X.env = (false, eval e X.env) :: starEach [.Name n p2] X.env := by rfl) (hs2 : starEach [.Name n p2] X.env = (false, eval (.Name n p2) X.env) :: starEach [] X.env := by rfl) (hn : n ≠ "__name__" := by decide) (hd : (n == ("__debug__" : Str)) = false := by decide)
    (hpl : (backTo pos (starEach [.Name n p2] X.env)).any (·.1) = false := by rfl) : PD X (.Call (.Name "isinstance" p) [e, .Name n p2] [] pos) ρ M (.bool u) :=
  pd_of (pe_callB call_isi hg hm (by decide +kernel) (pa_cons pe_w (pa_cons (pe_bltn (v := .ty T) hgT hmT hv rfl hn hd) pa_nil hs2) hs) (by decide) (by decide) hs hpl) fun Hs H σ Q i q k =>
    ha.run Hs H σ _ i q fun v Hs1 H1 g1 p1 => ⟨v, .ty T, _, _, u, rfl, .ty T, tyx_of (dp_mono g1.i p1), kit_ty hk, k _ Hs1 H1 g1 (.bl _)⟩
/-- len, tuple(..), list(..), all(..) -/
theorem cd_lenT {K : Fg} : CD K (fun xs H Q => ∃ p ys, xs = [.ref p] ∧ (SqL K H p ys ∨ SqT K H p ys) ∧ Q (.int ys.length) H) [.tuple ds] (.int ds.length) := fun Hs H vs Q s p k => by
  cases p with
  | cons p1 p2 =>
    cases p2
    obtain ⟨a, us, rfl, ha, pa⟩ := dp_tup p1
    exact ⟨a, us, rfl, .inr ((ha.mono s).sq), by rw [pa.len]; exact k _ Hs H (.refl s) (.int _)⟩
theorem cd_lenL {K : Fg} : CD K (fun xs H Q => ∃ p ys, xs = [.ref p] ∧ (SqL K H p ys ∨ SqT K H p ys) ∧ Q (.int ys.length) H) [.list ds] (.int ds.length) := fun Hs H vs Q s p k => by
  cases p with
  | cons p1 p2 =>
    cases p2
    obtain ⟨a, us, rfl, ha, pa⟩ := dp_lst p1
    exact ⟨a, us, rfl, .inl (s.seq ha), by rw [pa.len]; exact k _ Hs H (.refl s) (.int _)⟩
theorem pd_lenT {p : Pos} (hg : Gl X "len") (hm : X.mg "len" = none) (ha : PD X e ρ M (.tuple ds)) (hs : starEach [e] X.env = (false, eval e X.env) :: starEach [] X.env := by rfl) : PD X (.Call (.Name "len" p) [e] [] pos) ρ M (.int ds.length) :=
  pd_callB call_len_seq cd_lenT hg hm PySem.boot_len (pds_cons ha pds_nil hs) (by decide) (by decide) hs
theorem pd_lenL {p : Pos} (hg : Gl X "len") (hm : X.mg "len" = none) (ha : PD X e ρ M (.list ds)) (hs : starEach [e] X.env = (false, eval e X.env) :: starEach [] X.env := by rfl) : PD X (.Call (.Name "len" p) [e] [] pos) ρ M (.int ds.length) :=
  pd_callB call_len_seq cd_lenL hg hm PySem.boot_len (pds_cons ha pds_nil hs) (by decide) (by decide) hs
theorem pd_lenS {p : Pos} {t : Str} (hg : Gl X "len") (hm : X.mg "len" = none) (ha : PD X e ρ M (.str t)) (hz : t.length ≤ sizeLine) (hs : starEach [e] X.env = (false, eval e X.env) :: starEach [] X.env := by rfl) : PD X (.Call (.Name "len" p) [e] [] pos) ρ M (.int t.length) :=
  pd_callB call_len_str (fun Hs H vs Q s p k => by
    cases p with
    | cons p1 p2 => cases p2; rw [dp_str p1]; exact ⟨t, rfl, hz, k _ Hs H (.refl s) (.int _)⟩) hg hm PySem.boot_len (pds_cons ha pds_nil hs) (by decide) (by decide) hs
theorem boot_tuple : bootBuiltins "tuple" = some (.type "tuple") := by decide +kernel
theorem boot_list : bootBuiltins "list" = some (.type "list") := by decide +kernel
theorem boot_all : bootBuiltins "all" = some (.builtin "all") := by decide +kernel
theorem pd_tupleL {p : Pos} (hg : Gl X "tuple") (hm : X.mg "tuple" = none) (ha : PD X e ρ M (.list ds)) (hs : starEach [e] X.env = (false, eval e X.env) :: starEach [] X.env := by rfl) : PD X (.Call (.Name "tuple" p) [e] [] pos) ρ M (.tuple ds) :=
  pd_callTy call_tupleF (fun Hs H vs Q s p k => by
    cases p with
    | cons p1 p2 =>
      cases p2
      obtain ⟨a, us, rfl, ha, pa⟩ := dp_lst p1
      exact ⟨a, us, rfl, .inl ⟨s.seq ha, fun l o hl ho => k _ _ _ (.new s hl) (.tup (.of upd_same ho) (dpAll_mono (same_upd (s.free hl)) pa))⟩⟩) hg hm boot_tuple (pds_cons ha pds_nil hs) (by decide) (by decide) hs
theorem pd_listT {p : Pos} (hg : Gl X "list") (hm : X.mg "list" = none) (ha : PD X e ρ M (.tuple ds)) (hs : starEach [e] X.env = (false, eval e X.env) :: starEach [] X.env := by rfl) : PD X (.Call (.Name "list" p) [e] [] pos) ρ M (.list ds) :=
  pd_callTy call_list_of (fun Hs H vs Q s p k => by
    cases p with
    | cons p1 p2 =>
      cases p2
      obtain ⟨a, us, rfl, ha, pa⟩ := dp_tup p1
      exact ⟨a, us, rfl, .inr ((ha.mono s).sq), fun l hl => k _ _ _ (.new s hl) (.lst (.of upd_same) (dpAll_mono (same_upd (s.free hl)) pa))⟩) hg hm boot_list (pds_cons ha pds_nil hs) (by decide) (by decide) hs
theorem pd_all {p : Pos} {bs : List Bool} (hc : X.calm = true) (hg : Gl X "all") (hm : X.mg "all" = none) (ha : PD X e ρ M (.list (bs.map .bool))) (hs : starEach [e] X.env = (false, eval e X.env) :: starEach [] X.env := by rfl) : PD X (.Call (.Name "all" p) [e] [] pos) ρ M (.bool (bs.all id)) :=
  pd_callB (cr_all hc) (fun Hs H vs Q s p k => by
    cases p with
    | cons p1 p2 =>
      cases p2
      obtain ⟨a, us, rfl, ha, pa⟩ := dp_lst p1
      exact ⟨a, bs, rfl, by rw [← dpAll_bls pa]; exact s.seq ha, k _ Hs H (.refl s) (.bl _)⟩) hg hm boot_all (pds_cons ha pds_nil hs) (by decide) (by decide) hs
end

/-! ### a def of the text, by data -/
def spD (K : Fg) (F : List D → D → Prop) : Sp := fun vs H Q _ => ∃ (Hs : Hp) (ds : List D) (d : D), Same Hs H ∧ DqAll K Hs vs ds ∧ F ds d ∧ ∀ v Hs' H', Grow Hs H Hs' H' → Dq K Hs' v d → Q v H'
structure DefD (P : Program) (w : World) (K : Fg) (mg : Str → Option Value) (base : Heap) (k : Nat) (x : Str) (ps : List Str) (F : List D → D → Prop) : Prop where
  ex : ∃ f fd, FnOk P w K mg base CX0 k f fd ps (spD K F) ∧ mg x = some (.ref f) ∧ PySem.W.keepIn K (.ref f) = true ∧ Binds K fd ps []
theorem DefD.imp {P : Program} {w : World} {K : Fg} {mg : Str → Option Value} {base : Heap} {k : Nat} {x : Str} {ps : List Str} {F G : List D → D → Prop} (h : DefD P w K mg base k x ps F) (i : ∀ ds d, G ds d → F ds d) : DefD P w K mg base k x ps G := by
  obtain ⟨f, fd, h1, h2, h3, h4⟩ := h.ex
  exact ⟨f, fd, h1.imp fun vs H Q E ⟨Hs, ds, d, a, b, c, k⟩ => ⟨Hs, ds, d, a, b, i _ _ c, k⟩, h2, h3, h4⟩
section
variable {X : Cx} {M : Mem} {e : Expr} {es : List Expr} {ρ : Env} {d : D} {ds : List D} {pos : Pos}
theorem pd_call {k : Nat} {x : Str} {ps : List Str} {F : List D → D → Prop} {p : Pos} (h : DefD X.prog X.w X.K X.mg X.base k x ps F) (hr : Room k X.A) (hg : Gl X x) (ha : PDs X (e :: es) ρ M ds) (hF : F ds d)
    (hdb : (x == ("__debug__" : Str)) = false := by decide) (he : starEach (e :: es) X.env = (false, eval e X.env) :: starEach es X.env := by rfl) (hpl : (backTo pos (starEach es X.env)).any (·.1) = false := by rfl) : PD X (.Call (.Name x p) (e :: es) [] pos) ρ M d := by
  obtain ⟨f, fd, F1, hm, hk, hb⟩ := h.ex
  exact pd_of (pe_call F1 hr hg hm hk hb .nil pass0 pa_w hdb he hpl) fun Hs H σ Q i q k => ha.run Hs H σ _ i q fun vs Hs1 H1 g1 p1 => ⟨Hs1, ds, d, g1.i, by rw [List.append_nil]; exact p1, hF, fun v Hs2 H2 g2 p2 => k v Hs2 H2 (g1.trans g2) p2⟩
end
end AB
namespace AB
open PySem L2
/-! ### what is walked, by data -/
/-- data, or a pair that a walk has just made -/
def DqW (K : Fg) (H : Hp) (v : V) (d : D) : Prop := Dq K H v d ∨ ∃ a vs ds, v = .ref a ∧ d = .tuple ds ∧ SqT K H a vs ∧ DqAll K H vs ds
def Dr : Bool → Fg → Hp → V → D → Prop
  | true => Dq
  | false => DqW
theorem Dr.w {S : Bool} {K : Fg} {H : Hp} {v : V} {d : D} (h : Dr S K H v d) : DqW K H v d := by
  cases S with
  | true => exact .inl h
  | false => exact h
theorem DqW.tup {K : Fg} {H : Hp} {v : V} {ds : List D} (h : DqW K H v (.tuple ds)) : ∃ a vs, v = .ref a ∧ SqT K H a vs ∧ DqAll K H vs ds := by
  rcases h with h | ⟨a, vs, es, e1, e2, e3, e4⟩
  · obtain ⟨a, vs, e, h1, h2⟩ := dp_tup h
    exact ⟨a, vs, e, h1.sq, h2⟩
  · cases e2; exact ⟨a, vs, e1, e3, e4⟩
structure WkD (S : Bool) (K : Fg) (J : It) (Hs0 : Hp) (ds : List D) : Prop where
  go : ∀ i H, Same Hs0 H → i < ds.length → J.go i H
  stop : ∀ H, Same Hs0 H → J.stop ds.length H
  yld : ∀ i Hs H x H' d, Same Hs0 Hs → Same Hs H → ds[i]? = some d → J.yld i H x H' → ∃ Hs', Grow Hs H Hs' H' ∧ Dr S K Hs' x d
structure PID (X : Cx) (S : Bool) (tg iter : Expr) (ρ : Env) (M : Mem) (ds : List D) : Prop where
  run : ∀ (Hs H : Hp) (σ : L2.St) (R : It → Hp → Prop), RelM X.K Hs H M → EnvR X.K Hs σ ρ → (∀ J Hs' H', Grow Hs H Hs' H' → WkD S X.K J Hs' ds → R J H') → tWi X tg iter σ H R
section
variable {X : Cx} {S : Bool} {M : Mem} {tg iter e a : Expr} {ρ : Env} {ds : List D} {pos : Pos}
theorem pid_of {t : TI} (h : PI X tg iter t) (q : ∀ (Hs H : Hp) (σ : L2.St) (R : It → Hp → Prop), RelM X.K Hs H M → EnvR X.K Hs σ ρ → (∀ J Hs' H', Grow Hs H Hs' H' → WkD S X.K J Hs' ds → R J H') → t σ H R) : PID X S tg iter ρ M ds :=
  ⟨fun Hs H σ R i r k => PI.w h (q Hs H σ R i r k)⟩
theorem wkd_tup {K : Fg} {Hs : Hp} {a : Addr} {vs : List V} (h : SqT K Hs a vs) (p : DqAll K Hs vs ds) : WkD true K (Itt K a) Hs ds where
  go := fun i H s hi => by
    have hl : i < vs.length := by rw [p.len]; exact hi
    exact ⟨vs, vs[i], sqT_mono s h, List.getElem?_eq_getElem hl⟩
  stop := fun H s => ⟨vs, sqT_mono s h, by rw [p.len]; exact Nat.le_refl _⟩
  yld := fun i Hs1 H x H' d s1 s2 e y => by
    obtain ⟨rfl, y⟩ := y
    obtain ⟨v, e1, e2⟩ := p.get e
    have := y vs (sqT_mono (s1.trans s2) h)
    rw [e1] at this
    cases this
    exact ⟨Hs1, .refl s2, dp_mono s1 e2⟩
theorem wkd_lst {K : Fg} {Hs : Hp} {a : Addr} {vs : List V} (h : SqL K Hs a vs) (p : DqAll K Hs vs ds) : WkD true K (Itl K a) Hs ds where
  go := fun i H s hi => by
    have hl : i < vs.length := by rw [p.len]; exact hi
    exact ⟨vs, vs[i], s.seq h, List.getElem?_eq_getElem hl⟩
  stop := fun H s => ⟨vs, s.seq h, by rw [p.len]; exact Nat.le_refl _⟩
  yld := fun i Hs1 H x H' d s1 s2 e y => by
    obtain ⟨rfl, y⟩ := y
    obtain ⟨v, e1, e2⟩ := p.get e
    have := y vs ((s1.trans s2).seq h)
    rw [e1] at this
    cases this
    exact ⟨Hs1, .refl s2, dp_mono s1 e2⟩
theorem pid_tup (h : PD X iter ρ M (.tuple ds)) : PID X true tg iter ρ M ds := pid_of (pi_tup pe_w) fun Hs H σ R i r k => h.run Hs H σ _ i r fun v Hs1 H1 g1 p1 => by
  obtain ⟨a, vs, rfl, ha, pa⟩ := dp_tup p1
  exact ⟨a, rfl, ⟨vs, sqT_mono g1.i ha.sq⟩, k _ Hs1 H1 g1 (wkd_tup ha.sq pa)⟩
theorem pid_lst (h : PD X iter ρ M (.list ds)) : PID X true tg iter ρ M ds := pid_of (pi_list pe_w) fun Hs H σ R i r k => h.run Hs H σ _ i r fun v Hs1 H1 g1 p1 => by
  obtain ⟨a, vs, rfl, ha, pa⟩ := dp_lst p1
  exact ⟨a, rfl, ⟨vs, g1.i.seq ha⟩, k _ Hs1 H1 g1 (wkd_lst ha pa)⟩
/-- the ints lo, lo + 1, .. (n of them) -/
def rangeD (lo : Int) (n : Nat) : List D := (List.range n).map fun i => .int (lo + (i : Nat))
theorem rangeD_len {lo : Int} {n : Nat} : (rangeD lo n).length = n := by unfold rangeD; rw [List.length_map, List.length_range]
theorem rangeD_get {lo : Int} {n i : Nat} (h : i < n) : (rangeD lo n)[i]? = some (.int (lo + (i : Nat))) := by
  unfold rangeD
  rw [List.getElem?_map, List.getElem?_range h]; rfl
theorem wkd_rng {K : Fg} {Hs : Hp} {lo : Int} {n : Nat} : WkD true K (Itr lo n) Hs (rangeD lo n) where
  go := fun i H s hi => by rw [rangeD_len] at hi; exact hi
  stop := fun H s => by rw [rangeD_len]; exact Nat.le_refl _
  yld := fun i Hs1 H x H' d s1 s2 e y => by
    obtain ⟨rfl, rfl⟩ := y
    have hi : i < n := by
      have := (List.getElem?_eq_some_iff.mp e).1
      rwa [rangeD_len] at this
    rw [rangeD_get hi] at e
    cases e
    exact ⟨Hs1, .refl s2, .int _⟩
theorem pid_rng1 {p : Pos} {n : Int} (hg : Gl X "range") (hm : X.mg "range" = none) (h : PD X a ρ M (.int n)) (hn : -(2 ^ 62) ≤ n ∧ n < 2 ^ 62) (hs : starEach [a] X.env = [(false, eval a X.env)] := by rfl) : PID X true tg (.Call (.Name "range" p) [a] [] pos) ρ M (rangeD 0 n.toNat) :=
  pid_of (pi_range1 hg hm (pa_cons pe_w pa_nil hs) hs) fun Hs H σ R i r k => h.run Hs H σ _ i r fun v Hs1 H1 g1 p1 => ⟨n, by rw [dp_int p1], hn.1, hn.2, k _ Hs1 H1 g1 wkd_rng⟩
theorem pid_rng2 {p : Pos} {b : Expr} {m n : Int} (hg : Gl X "range") (hm : X.mg "range" = none) (h : PD X a ρ M (.int m)) (h' : PD X b ρ M (.int n)) (hb : -(2 ^ 62) ≤ m ∧ m < 2 ^ 62 ∧ -(2 ^ 62) ≤ n ∧ n < 2 ^ 62) (hs : starEach [a, b] X.env = [(false, eval a X.env), (false, eval b X.env)] := by rfl) (hs2 : starEach [b] X.env = [(false, eval b X.env)] := by rfl) :
    PID X true tg (.Call (.Name "range" p) [a, b] [] pos) ρ M (rangeD m (n - m).toNat) :=
  pid_of (pi_range2 hg hm (pa_cons pe_w (pa_cons pe_w pa_nil hs2) (hs.trans (by rw [hs2]))) hs hs2) fun Hs H σ R i r k => h.run Hs H σ _ i r fun v Hs1 H1 g1 p1 => h'.run Hs1 H1 σ _ (i.grow g1) (r.mono g1.s) fun v2 Hs2 H2 g2 p2 => ⟨m, n, by rw [dp_int p1, dp_int p2], hb, k _ Hs2 H2 (g1.trans g2) wkd_rng⟩
/-- the signs of a text -/
def signsD (z : Str) : List D := z.cps.toList.map fun c => .str ⟨#[c]⟩
theorem wkd_str {K : Fg} {Hs : Hp} {z : Str} : WkD true K (Its z) Hs (signsD z) where
  go := fun i H s hi => by unfold signsD at hi; rw [List.length_map, Array.length_toList] at hi; exact hi
  stop := fun H s => by unfold signsD; rw [List.length_map, Array.length_toList]; exact Nat.le_refl _
  yld := fun i Hs1 H x H' d s1 s2 e y => by
    obtain ⟨rfl, c, e1, rfl⟩ := y
    unfold signsD at e
    rw [List.getElem?_map, Array.getElem?_toList, e1] at e
    cases e
    exact ⟨Hs1, .refl s2, .str _⟩
theorem pid_str {z : Str} (h : PD X iter ρ M (.str z)) : PID X true tg iter ρ M (signsD z) := pid_of (pi_str pe_w) fun Hs H σ R i r k => h.run Hs H σ _ i r fun v Hs1 H1 g1 p1 => ⟨z, dp_str p1, k _ Hs1 H1 g1 wkd_str⟩
/-- pairs that a zip of two tuples, of two lists makes -/
def zipD (xs ys : List D) : List D := (xs.zip ys).map fun p => .tuple [p.1, p.2]
theorem zipD_get {xs ys : List D} {i : Nat} {d : D} (h : (zipD xs ys)[i]? = some d) : ∃ x y, xs[i]? = some x ∧ ys[i]? = some y ∧ d = .tuple [x, y] := by
  unfold zipD at h
  rw [List.getElem?_map] at h
  cases q : (xs.zip ys)[i]? with
  | none => rw [q] at h; cases h
  | some p =>
    rw [q] at h
    cases h
    obtain ⟨h1, h2⟩ := List.getElem?_zip_eq_some.mp q
    exact ⟨_, _, h1, h2, rfl⟩
theorem zipD_len {xs ys : List D} : (zipD xs ys).length = min xs.length ys.length := by unfold zipD; rw [List.length_map, List.length_zip]
theorem pair_new {K : Fg} {Hs H : Hp} {T : Addr} {v w : V} {x y : D} (i : Same Hs H) (hT : H T = none) (p : Dq K Hs v x) (q : Dq K Hs w y) : Grow Hs H (upd Hs T (.tup [v, w])) (upd H T (.tup [v, w])) ∧ Dr false K (upd Hs T (.tup [v, w])) (.ref T) (.tuple [x, y]) :=
  ⟨.new i hT, .inr ⟨_, _, _, rfl, rfl, SqT.of upd_same, dpAll_mono (same_upd (i.free hT)) (.cons p (.cons q .nil))⟩⟩
theorem wkd_zipT {K : Fg} {Hs : Hp} {a b : Addr} {vs us : List V} {xs ys : List D} (h : SqT K Hs a vs) (p : DqAll K Hs vs xs) (h' : SqT K Hs b us) (p' : DqAll K Hs us ys) : WkD false K (RZ.ItzT K a b) Hs (zipD xs ys) where
  go := fun i H s hi => by
    rw [zipD_len] at hi
    have h1 : i < vs.length := by rw [p.len]; omega
    have h2 : i < us.length := by rw [p'.len]; omega
    exact ⟨vs, us, vs[i], us[i], sqT_mono s h, sqT_mono s h', List.getElem?_eq_getElem h1, List.getElem?_eq_getElem h2⟩
  stop := fun H s => ⟨vs, us, sqT_mono s h, sqT_mono s h', by rw [zipD_len, p.len, p'.len]; omega⟩
  yld := fun i Hs1 H x H' d s1 s2 e y => by
    obtain ⟨T, v, w, rfl, hT, rfl, y1, y2⟩ := y
    obtain ⟨x, y, e1, e2, rfl⟩ := zipD_get e
    obtain ⟨v', f1, f2⟩ := p.get e1
    obtain ⟨w', k1, k2⟩ := p'.get e2
    have z1 := y1 vs (sqT_mono (s1.trans s2) h)
    have z2 := y2 us (sqT_mono (s1.trans s2) h')
    rw [f1] at z1; cases z1
    rw [k1] at z2; cases z2
    exact ⟨_, pair_new s2 hT (dp_mono s1 f2) (dp_mono s1 k2)⟩
theorem wkd_zipL {K : Fg} {Hs : Hp} {a b : Addr} {vs us : List V} {xs ys : List D} (h : SqL K Hs a vs) (p : DqAll K Hs vs xs) (h' : SqL K Hs b us) (p' : DqAll K Hs us ys) : WkD false K (Itz K a b) Hs (zipD xs ys) where
  go := fun i H s hi => by
    rw [zipD_len] at hi
    have h1 : i < vs.length := by rw [p.len]; omega
    have h2 : i < us.length := by rw [p'.len]; omega
    exact ⟨vs, us, vs[i], us[i], s.seq h, s.seq h', List.getElem?_eq_getElem h1, List.getElem?_eq_getElem h2⟩
  stop := fun H s => ⟨vs, us, s.seq h, s.seq h', by rw [zipD_len, p.len, p'.len]; omega⟩
  yld := fun i Hs1 H x H' d s1 s2 e y => by
    obtain ⟨T, v, w, rfl, hT, rfl, y1, y2⟩ := y
    obtain ⟨x, y, e1, e2, rfl⟩ := zipD_get e
    obtain ⟨v', f1, f2⟩ := p.get e1
    obtain ⟨w', k1, k2⟩ := p'.get e2
    have z1 := y1 vs ((s1.trans s2).seq h)
    have z2 := y2 us ((s1.trans s2).seq h')
    rw [f1] at z1; cases z1
    rw [k1] at z2; cases z2
    exact ⟨_, pair_new s2 hT (dp_mono s1 f2) (dp_mono s1 k2)⟩
theorem pid_zipT {p tpos : Pos} {elts : List Expr} {kk : Nat} {b : Expr} {xs ys : List D} (hg : Gl X "zip") (hm : X.mg "zip" = none) (h : PD X a ρ M (.tuple xs)) (h' : PD X b ρ M (.tuple ys)) (hs : starEach [a, b] X.env = (false, eval a X.env) :: starEach [b] X.env := by rfl) (hs2 : starEach [b] X.env = (false, eval b X.env) :: starEach [] X.env := by rfl) (hpl : (backTo pos (starEach [b] X.env)).any (·.1) = false := by rfl) :
    PID X false (.Tuple elts kk tpos) (.Call (.Name "zip" p) [a, b] [] pos) ρ M (zipD xs ys) :=
  pid_of (RZ.pi_zipA hg hm (pa_cons pe_w (pa_cons pe_w pa_nil hs2) hs) hs hpl) fun Hs H σ R i r k => h.run Hs H σ _ i r fun v Hs1 H1 g1 p1 => h'.run Hs1 H1 σ _ (i.grow g1) (r.mono g1.s) fun v2 Hs2 H2 g2 p2 => by
    obtain ⟨a1, vs, rfl, ha, pa⟩ := dp_tup (dp_mono g2.s p1)
    obtain ⟨b1, us, rfl, hb, pb⟩ := dp_tup p2
    exact ⟨a1, b1, vs, us, rfl, .inr ⟨sqT_mono g2.i ha.sq, sqT_mono g2.i hb.sq, k _ Hs2 H2 (g1.trans g2) (wkd_zipT ha.sq pa hb.sq pb)⟩⟩
theorem pid_zipL {p tpos : Pos} {elts : List Expr} {kk : Nat} {b : Expr} {xs ys : List D} (hg : Gl X "zip") (hm : X.mg "zip" = none) (h : PD X a ρ M (.list xs)) (h' : PD X b ρ M (.list ys)) (hs : starEach [a, b] X.env = (false, eval a X.env) :: starEach [b] X.env := by rfl) (hs2 : starEach [b] X.env = (false, eval b X.env) :: starEach [] X.env := by rfl) (hpl : (backTo pos (starEach [b] X.env)).any (·.1) = false := by rfl) :
    PID X false (.Tuple elts kk tpos) (.Call (.Name "zip" p) [a, b] [] pos) ρ M (zipD xs ys) :=
  pid_of (RZ.pi_zipA hg hm (pa_cons pe_w (pa_cons pe_w pa_nil hs2) hs) hs hpl) fun Hs H σ R i r k => h.run Hs H σ _ i r fun v Hs1 H1 g1 p1 => h'.run Hs1 H1 σ _ (i.grow g1) (r.mono g1.s) fun v2 Hs2 H2 g2 p2 => by
    obtain ⟨a1, vs, rfl, ha, pa⟩ := dp_lst (dp_mono g2.s p1)
    obtain ⟨b1, us, rfl, hb, pb⟩ := dp_lst p2
    exact ⟨a1, b1, vs, us, rfl, .inl ⟨g2.i.seq ha, g2.i.seq hb, k _ Hs2 H2 (g1.trans g2) (wkd_zipL ha pa hb pb)⟩⟩
end

/-! ### targets -/
/-- the target takes d: the slots behind; ts the slots that it may change -/
structure PGD (X : Cx) (S : Bool) (tg : Expr) (d : D) (ρ ρ' : Env) (ts : List Nat) : Prop where
  run : ∀ (Hs H : Hp) (σ : L2.St) (v : V) (Q : L2.St → Hp → Prop), Same Hs H → EnvR X.K Hs σ ρ → Dr S X.K Hs v d → (∀ σ', EnvR X.K Hs σ' ρ' → (σ'.length = σ.length ∧ ∀ (j : Nat), j ∉ ts → σ'[j]? = σ[j]?) → Q σ' H) → tWg X tg v σ H Q
structure PGDs (X : Cx) (tgs : List Expr) (ds : List D) (ρ ρ' : Env) (ts : List Nat) : Prop where
  run : ∀ (Hs H : Hp) (σ : L2.St) (vs : List V) (Q : L2.St → Hp → Prop), Same Hs H → EnvR X.K Hs σ ρ → DqAll X.K Hs vs ds → (∀ σ', EnvR X.K Hs σ' ρ' → (σ'.length = σ.length ∧ ∀ (j : Nat), j ∉ ts → σ'[j]? = σ[j]?) → Q σ' H) → ∀ pins s us, Inv X pins σ H s → Vals vs us →
    wpAny (model X.prog X.w) X.A (assignInOrder ((assignEach tgs X.env).map (·.2)) us) (fun _ s' => ∃ σ' H', Inv X pins σ' H' s' ∧ Q σ' H') X.xe s
section
variable {X : Cx} {M : Mem} {tg e : Expr} {tgs : List Expr} {ρ ρ1 ρ2 : Env} {d : D} {ds : List D} {pos : Pos} {ts us : List Nat}
theorem pgd_name (i : Nat) {x : Str} (hN : X.N.Nodup) (hi : X.N[i]? = some x := by rfl) (hx : Loc X.env.scope x := by first | exact Or.inl rfl | exact Or.inr rfl) (hf : X.fn x = true ∨ X.env.scope.names.lookup x = some .local := by first | exact .inl rfl | exact .inr rfl | assumption) : PGD X true (.Name x pos) d ρ (ρ.set i (.d d)) [i] :=
  ⟨fun Hs H σ v Q s r p k => PG.w (pg_name hN hi hx hf) (k _ (r.set i ⟨v, rfl, p⟩) ⟨List.length_set, fun j hj => List.getElem?_set_ne (fun z => hj (by simp [z]))⟩)⟩
theorem pgds_nil : PGDs X [] [] ρ ρ [] := ⟨fun Hs H σ vs Q s r p k pins st us I rv => by
  cases p
  exact pgs_nil.run pins st σ H [] us Q I rv ⟨rfl, k σ r ⟨rfl, fun _ _ => rfl⟩⟩⟩
theorem pgds_cons (h1 : PGD X true e d ρ ρ1 ts) (h2 : PGDs X tgs ds ρ1 ρ2 us) (hs : (assignEach (e :: tgs) X.env).map (·.2) = assign e X.env :: (assignEach tgs X.env).map (·.2) := by rfl) : PGDs X (e :: tgs) (d :: ds) ρ ρ2 (ts ++ us) :=
  ⟨fun Hs H σ vs Q s r p k pins st ws I rv => by
    cases p with
    | cons p1 p2 =>
      cases rv with
      | cons rv1 rv2 =>
        rw [hs]
        refine PyProof.Rows.assignInOrder_cons (thn (h1.run Hs H σ _ (fun σ' H' => H' = H ∧ EnvR X.K Hs σ' ρ1 ∧ (σ'.length = σ.length ∧ ∀ (j : Nat), j ∉ ts → σ'[j]? = σ[j]?)) s r p1 (fun σ' r' o => ⟨rfl, r', o⟩) pins st _ I rv1) fun _ s1 ⟨σ1, H1, I1, hH, r1, o1⟩ => ?_)
        subst hH
        exact h2.run Hs _ σ1 _ Q s r1 p2 (fun σ' r' o => k σ' r' ⟨o.1.trans o1.1, fun j hj => (o.2 j fun z => hj (List.mem_append_right _ z)).trans (o1.2 j fun z => hj (List.mem_append_left _ z))⟩) pins s1 _ I1 rv2⟩
theorem pgd_tup {S : Bool} {k n : Nat} (hc : X.calm = true) (h : PGDs X tgs ds ρ ρ1 ts) (hn : (assignEach tgs X.env).length = ds.length := by rfl) (hst : (assignEach tgs X.env).findIdx? (·.1) = none := by rfl) : PGD X S (.Tuple tgs k pos) (.tuple ds) ρ ρ1 ts :=
  ⟨fun Hs H σ v Q s r p q => by
    obtain ⟨a, vs, rfl, ha, pa⟩ := p.w.tup
    exact PG.w (pg_tup (X := X) (es := tgs) (t := fun ws σ H Q => ∀ pins s us, Inv X pins σ H s → Vals ws us → wpAny (model X.prog X.w) X.A (assignInOrder ((assignEach tgs X.env).map (·.2)) us) (fun _ s' => ∃ σ' H', Inv X pins σ' H' s' ∧ Q σ' H') X.xe s) (n := ds.length) hc ⟨fun pins s σ H vs us Q I rv h => h pins s us I rv⟩ hn hst)
      ⟨a, vs, rfl, sqT_mono s ha, pa.len, h.run Hs H σ vs Q s r pa q⟩⟩
end

/-! ### comprehensions -/
theorem wipe_same : ∀ (vs : List Nat) (σ σ' : L2.St), σ'.length = σ.length → (∀ j, j ∉ vs → σ'[j]? = σ[j]?) → L2.wipe σ' vs = L2.wipe σ vs := by
  intro vs σ σ' hl h
  apply List.ext_getElem?
  intro j
  have key : ∀ (vs : List Nat) (σ : L2.St) (j : Nat), (L2.wipe σ vs)[j]? = if j ∈ vs then (σ[j]?).map (fun _ => none) else σ[j]? := by
    intro vs σ j
    induction vs with
    | nil => simp [L2.wipe]
    | cons v vs ih =>
      unfold L2.wipe
      by_cases hv : v = j
      · subst hv
        rw [if_pos List.mem_cons_self]
        by_cases hlt : v < σ.length
        · rw [List.getElem?_set_self (by rw [wipe_length]; exact hlt), List.getElem?_eq_getElem hlt]; rfl
        · rw [List.getElem?_eq_none (by rw [List.length_set, wipe_length]; omega), List.getElem?_eq_none (by omega)]; rfl
      · rw [List.getElem?_set_ne hv, ih]
        have : (j ∈ v :: vs) ↔ j ∈ vs := by simp [Ne.symm hv]
        simp only [this]
  rw [key, key]
  split
  · by_cases hlt : j < σ.length
    · rw [List.getElem?_eq_getElem hlt, List.getElem?_eq_getElem (by omega)]; rfl
    · rw [List.getElem?_eq_none (by omega), List.getElem?_eq_none (by omega)]
  · rename_i hj
    exact h j hj
theorem wipe_wipe (vs : List Nat) (σ : L2.St) : L2.wipe (L2.wipe σ vs) vs = L2.wipe σ vs := by
  refine wipe_same vs σ _ (wipe_length σ vs) fun j hj => ?_
  have : ∀ vs : List Nat, j ∉ vs → (L2.wipe σ vs)[j]? = σ[j]? := by
    intro vs
    induction vs with
    | nil => intro _; rfl
    | cons v vs ih =>
      intro h
      unfold L2.wipe
      rw [List.getElem?_set_ne (fun z => h (by simp [z]))]
      exact ih fun z => h (List.mem_cons_of_mem _ z)
  exact this vs hj
/-- the tests of a comprehension -/
structure PTsD (X : Cx) (ifs : List Expr) (ρ : Env) (M : Mem) (b : Bool) : Prop where
  run : ∀ (Hs H : Hp) (σ : L2.St) (Q : Bool → Hp → Prop), RelM X.K Hs H M → EnvR X.K Hs σ ρ → (∀ Hs' H', Grow Hs H Hs' H' → Q b H') → ∀ pins s, Inv X pins σ H s → (∃ t, PTs X ifs t ∧ t σ H Q)
theorem ptsd_nil {X : Cx} {ρ : Env} {M : Mem} : PTsD X [] ρ M true := ⟨fun Hs H σ Q i r k pins s I => ⟨_, pts_nil, k Hs H (.refl i)⟩⟩
theorem ptsd_one {X : Cx} {ρ : Env} {M : Mem} {c : Expr} {b : Bool} (h : PTD X c ρ M b) : PTsD X [c] ρ M b := ⟨fun Hs H σ Q i r k pins s I => ⟨_, pts_one pt_w, h.run Hs H σ Q i r k⟩⟩
section
variable {X : Cx} {M : Mem} {elt tg iter : Expr} {ifs : List Expr} {scope : Scope} {pos : Pos} {ρ : Env} {items : List D}
abbrev Blk (X : Cx) (scope : Scope) (s : Shared) (H : Hp) (C : Addr) (cl : List (Str × Addr)) (fp : List Addr) : Cx := X.blk s H scope (compEnvC scope cl C X.env) fp
/-- what one turn of a comprehension does, by data: y = none where the test says no -/
structure Turn1 (X : Cx) (S : Bool) (scope : Scope) (tg : Expr) (ifs : List Expr) (elt : Expr) (ρ : Env) (M : Mem) (vs : List Nat) (d : D) (y : Option D) : Prop where
  ex : ∃ (ρ1 : Env) (ts : List Nat), (∀ t ∈ ts, t ∈ vs) ∧ ∀ s H C cl fp, PGD (Blk X scope s H C cl fp) S tg d (wipeE ρ vs) ρ1 ts ∧ PTsD (Blk X scope s H C cl fp) ifs ρ1 M y.isSome ∧ ∀ z, y = some z → PD (Blk X scope s H C cl fp) elt ρ1 M z
theorem filterMap_take {α β : Type} (f : α → Option β) (l : List α) (i : Nat) (a : α) (h : l[i]? = some a) : (l.take (i + 1)).filterMap f = (l.take i).filterMap f ++ (f a).toList := by
  rw [List.take_add_one, h, List.filterMap_append]
  show _ ++ List.filterMap f [a] = _
  cases q : f a <;> simp [q]
theorem filterMap_len {α β : Type} (f : α → Option β) (l : List α) : (l.filterMap f).length ≤ l.length := List.length_filterMap_le f l
theorem pd_lc {S : Bool} {own : List (Str × Nat)} (f : D → Option D) (hc : X.calm = true) (hN : X.N.Nodup) (ok : BlkOk X.N X.env.scope scope own) (hi : PID X S tg iter ρ M items) (hz : items.length ≤ 16777000)
    (ht : ∀ d, d ∈ items → Turn1 X S scope tg ifs elt ρ M (own.map (·.2)) d (f d)) (hs : ∀ x, foldedSetIterable iter X.env x = pure x := by intro _; rfl) : PD X (.ListComp elt [⟨tg, iter, ifs, 0⟩] scope pos) ρ M (.list (items.filterMap f)) := by
  let g : TG := fun v σ H Q => ∀ s H' C cl fp, tWg (Blk X scope s H' C cl fp) tg v σ H Q
  let tt : TT := fun σ H Q => ∀ s H' C cl fp pins st, Inv (Blk X scope s H' C cl fp) pins σ H st → (∃ t, PTs (Blk X scope s H' C cl fp) ifs t ∧ t σ H Q)
  let te : TE := fun σ H Q => ∀ s H' C cl fp, tWe (Blk X scope s H' C cl fp) elt σ H Q
  have hg : ∀ (s : Shared) (H : Hp) (C : Addr) (cl : List (Str × Addr)) (fp : List Addr), PG (X.blk s H scope (compEnvC scope cl C X.env) fp) tg g := fun s H C cl fp => ⟨fun pins st σ H1 v u Q I r h => h s H C cl fp pins st u I r⟩
  have htt : ∀ (s : Shared) (H : Hp) (C : Addr) (cl : List (Str × Addr)) (fp : List Addr), PTs (X.blk s H scope (compEnvC scope cl C X.env) fp) ifs tt := fun s H C cl fp => ⟨fun pins st σ H1 Q I h => by
    obtain ⟨t, h1, h2⟩ := h s H C cl fp pins st I
    exact h1.run pins st σ H1 Q I h2⟩
  have hte : ∀ (s : Shared) (H : Hp) (C : Addr) (cl : List (Str × Addr)) (fp : List Addr), PE (X.blk s H scope (compEnvC scope cl C X.env) fp) elt te := fun s H C cl fp => ⟨fun pins st σ H1 Q I h => h s H C cl fp pins st I⟩
  refine pd_of (pe_lc hc hN pi_w ok hg htt hte hs) fun Hs H σ Q i r k => hi.run Hs H σ _ i r fun J Hs1 H1 g1 wk Dl hD => ?_
  -- what stands behind i turns
  have i1 : RelM X.K Hs1 H1 M := i.grow g1
  have nM : ∀ b mo, M b = some mo → b ≠ Dl := fun b mo e z => by
    obtain ⟨_, o, h2, _⟩ := i1.m b mo e
    rw [z, hD] at h2; cases h2
  have rel : ∀ {Hs' H' : Hp} {o : HO}, RelM X.K Hs' H' M → Hs' Dl = none → RelM X.K Hs' (upd H' Dl o) M := fun {Hs' H' o} r n => ⟨fun b u e => by
    rw [upd_ne (ne_of_none e n)]; exact r.i b u e, fun b mo e => by
    obtain ⟨h1, u, h2, h3⟩ := r.m b mo e
    exact ⟨h1, u, by rw [upd_ne (nM b mo e)]; exact h2, h3⟩⟩
  let W : Nat → Nat → Hp → Prop := fun i m H' => m = items.length - i ∧ i ≤ items.length ∧ ∃ Hs' acc, Same Hs1 Hs' ∧ RelM X.K Hs' H' M ∧ Same H1 H' ∧ Hs' Dl = none ∧ (∀ a, Hs1 a = none → H1 a ≠ none → Hs' a = none) ∧ H' Dl = some (.lst acc) ∧ DqAll X.K Hs' acc ((items.take i).filterMap f)
  have w0 : W 0 items.length (upd H1 Dl (.lst [])) := ⟨by simp, Nat.zero_le _, Hs1, [], Same.refl _, rel i1 (g1.i.free hD), same_upd hD, g1.i.free hD, fun _ h _ => h, upd_same, by rw [List.take_zero]; exact .nil⟩
  refine ⟨W, ⟨_, w0⟩, ?_⟩
  rintro j m H' ⟨rfl, hj, Hs', acc, s1, s2, s3, n1, n2, e1, p1⟩
  by_cases hlt : j < items.length
  · refine .inr ⟨wk.go j H' (s1.trans s2.i) hlt, fun H'' => W (j + 1) (items.length - (j + 1)) H'', fun H'' w => ⟨_, by omega, w⟩, fun x H2 y => ?_⟩
    obtain ⟨d, hd⟩ : ∃ d, items[j]? = some d := ⟨_, List.getElem?_eq_getElem hlt⟩
    obtain ⟨Hs2, g2, p2⟩ := wk.yld j Hs' H' x H2 d s1 s2.i hd y
    obtain ⟨ρ1, ts, sub, T⟩ := (ht d (List.mem_of_getElem? hd)).ex
    have rw : EnvR X.K Hs2 (L2.wipe σ (own.map (·.2))) (wipeE ρ (own.map (·.2))) := ((r.mono g1.s).mono (s1.trans g2.s)).wipe _
    intro sA HA C cl fp
    refine (T sA HA C cl fp).1.run Hs2 H2 _ x _ g2.i rw p2 fun σ' r' o => ⟨?_, ?_⟩
    · rw [wipe_same (own.map (·.2)) (L2.wipe σ (own.map (·.2))) σ' o.1 fun j hj => o.2 j fun z => hj (sub j z), wipe_wipe]
    · intro sB HB C' cl' fp' pins st I
      obtain ⟨_, q2, q3⟩ := T sB HB C' cl' fp'
      have n3 : Hs2 Dl = none := g2.n Dl n1 (by rw [e1]; intro z; cases z)
      refine q2.run Hs2 H2 σ' _ (s2.grow g2) r' (fun Hs3 H3 g3 => ?_) pins st I
      have g23 := g2.trans g3
      cases hf : f d with
      | none =>
        refine iteF ⟨rfl, hlt, Hs3, acc, s1.trans g23.s, s2.grow g23, s3.trans g23.h, g23.n Dl n1 (by rw [e1]; intro z; cases z), fun a h1 h2 => g23.n a (n2 a h1 h2) fun z => h2 (s3.free z), g23.h _ _ e1, ?_⟩
        rw [filterMap_take f items j d hd, hf]
        show DqAll X.K Hs3 acc (_ ++ [])
        rw [List.append_nil]
        exact dpAll_mono g23.s p1
      | some z =>
        refine iteT ?_
        intro sC HC C2 cl2 fp2
        refine ((T sC HC C2 cl2 fp2).2.2 z hf).run Hs3 H3 σ' _ (s2.grow g23) (r'.mono g3.s) fun v Hs4 H4 g4 p4 => ?_
        have g24 := g23.trans g4
        have hne : H' Dl ≠ none := by rw [e1]; intro z; cases z
        have n4 : Hs4 Dl = none := g24.n Dl n1 hne
        have lacc : acc.length ≤ j := by
          rw [p1.len]
          exact Nat.le_trans (filterMap_len f _) (by rw [List.length_take]; omega)
        refine ⟨acc, g24.h _ _ e1, by have : sizeLine = 16777216 := rfl; omega, rfl, hlt, Hs4, acc ++ [v], s1.trans g24.s, rel (s2.grow g24) n4, fun b o e => ?_, n4, fun a h1 h2 => g24.n a (n2 a h1 h2) fun z => h2 (s3.free z), upd_same, ?_⟩
        · rw [upd_ne (ne_of_none e hD)]; exact g24.h b o (s3 b o e)
        · rw [filterMap_take f items j d hd, hf]
          exact (dpAll_mono g24.s p1).app (.cons p4 .nil)
  · have ej : j = items.length := by omega
    subst ej
    rw [List.take_length] at p1
    refine .inl ⟨wk.stop H' (s1.trans s2.i), k _ (upd Hs' Dl (.lst acc)) H' ⟨g1.h.trans s3, (g1.s.trans s1).trans (same_upd n1), fun b o e => ?_, fun a h1 h2 => ?_⟩ (.lst (.of upd_same) (dpAll_mono (same_upd n1) p1))⟩
    · by_cases hb : b = Dl
      · subst hb; rw [upd_same] at e; cases e; exact e1
      · rw [upd_ne hb] at e; exact s2.i b o e
    · have h3 : H1 a ≠ none := fun z => h2 (g1.h.free z)
      have hb : a ≠ Dl := fun z => h3 (z ▸ hD)
      rw [upd_ne hb]
      exact n2 a (g1.n a h1 h2) h3
end
end AB
namespace AB
open PySem L2
open PySem.AutoSeq1 (wpAny_loadPart')
/-! ### enumerate of a tuple, of a text -/
theorem meets_enumT (l : Addr) (items : Array Value) (n : Nat) (dct : Option Addr) (sl : Array (Option Value)) :
    Meets (Builtin.«enumerate.__new__» ⟨[.type "enumerate", .ref l], []⟩) (fun _ R s => s.heap.get? l = some { cls := .type "tuple", dict := dct, data := .seq items n, slots := sl } ∧
      R (.ok (.ret (.ref (s.heap.push { cls := .type "tuple_iterator", data := .fields #[.ref l, .int 0 0] }).objs.size)))
        { s with heap := (s.heap.push { cls := .type "tuple_iterator", data := .fields #[.ref l, .int 0 0] }).push { cls := .type "enumerate", data := .fields #[.none, .bool false, .ref s.heap.objs.size, rawInt 0, .none, .none] } }) :=
  .of_wp fun prog w A R s h => by
    obtain ⟨hp, g, d, tk, os⟩ := s; obtain ⟨hl, h⟩ := h
    have hsub := sub_enumerate
    have hL : Heap.IsTuple (Shared.heap ⟨hp, g, d, tk, os⟩) l items := ⟨_, hl, rfl, n, rfl⟩
    wp_walk using wpAny_loadPart' hl
    refine wpAny_stack_any fun st => wpAny_pure ?_
    split
    · rename_i c _ _ _ _ _
      cases (c == Value.type "enumerate")
      · wp_walk using wpAny_loadPart' hl, wpAny_pyIter_tuple hL
        exact ⟨_, rfl, h⟩
      · wp_walk using wpAny_loadPart' hl, wpAny_pyIter_tuple hL
        exact ⟨_, rfl, h⟩
    · wp_walk using wpAny_loadPart' hl, wpAny_pyIter_tuple hL
      exact ⟨_, rfl, h⟩
section
variable {prog : Program} {w : World} {A : Around} {E : Value → Shared → Prop} {s : Shared}
theorem call_enumT {l : Addr} {items : Array Value} {Q : Value → Shared → Prop} (hL : s.heap.IsTuple l items)
    (h : ∀ h', IsEnum h' (s.heap.objs.size + 1) s.heap.objs.size 0 .none → h'.IsTupleIter s.heap.objs.size l 0 → h'.objs.size = s.heap.objs.size + 2 →
      (∀ b o, s.heap.get? b = some o → h'.get? b = some o) → Q (.ref (s.heap.objs.size + 1)) { s with heap := h' }) :
    wpAny (model prog w) A (call (.type "enumerate") [.ref l]) Q E s := by
  obtain ⟨⟨c, dct, dt, sl⟩, hl, hc, n, hd⟩ := hL
  replace hc : c = .type "tuple" := hc
  replace hd : dt = .seq items n := hd
  subst hc hd
  refine callType_new F.called_enumerate (by decide) (F.typeCall_enumerate_1 _) (F.newCall_enumerate_1 _) (fun obj => F.args_object_init_2 obj _) F.entry_enumerate_new
    (meets_enumT l items n dct sl) ⟨hl, ?_⟩
  have hz : (s.heap.push { cls := .type "tuple_iterator", data := .fields #[.ref l, .int 0 0] }).objs.size = s.heap.objs.size + 1 := Heap.size_push ..
  show _ ∧ _
  rw [hz]
  have he : IsEnum ((s.heap.push { cls := .type "tuple_iterator", data := .fields #[.ref l, .int 0 0] }).push
      { cls := .type "enumerate", data := .fields #[.none, .bool false, .ref s.heap.objs.size, rawInt 0, .none, .none] }) (s.heap.objs.size + 1) s.heap.objs.size 0 .none := by
    have := Heap.get?_push_size (s.heap.push { cls := .type "tuple_iterator", data := .fields #[.ref l, .int 0 0] })
      (o := { cls := .type "enumerate", data := .fields #[.none, .bool false, .ref s.heap.objs.size, rawInt 0, .none, .none] }) rfl
    rw [hz] at this; exact this
  refine ⟨⟨_, he, rfl⟩, h _ he ⟨_, Heap.get?_push_of_some _ (Heap.get?_push_size _ rfl), rfl, rfl⟩ (by rw [Heap.size_push, hz]) fun b o x => Heap.get?_push_of_some _ (Heap.get?_push_of_some _ x)⟩
end
/-- the tuple at a, each item in a new pair with its number -/
def IteT (K : Fg) (a : Addr) : It :=
  ⟨fun i H => ∃ (xs : List V) (x : V), SqT K H a xs ∧ xs[i]? = some x, fun i H v H' => ∃ T x, v = .ref T ∧ H T = none ∧ H' = upd H T (.tup [.int (i : Nat), x]) ∧ ∀ xs, SqT K H a xs → xs[i]? = some x, fun i H => ∃ xs : List V, SqT K H a xs ∧ xs.length ≤ i⟩
def IteS (z : Str) : It :=
  ⟨fun i _ => i < z.cps.size, fun i H v H' => ∃ T c, v = .ref T ∧ H T = none ∧ H' = upd H T (.tup [.int (i : Nat), .str ⟨#[c]⟩]) ∧ z.cps[i]? = some c, fun i _ => z.cps.size ≤ i⟩
theorem turn_enumT {P : Program} {w : World} {K : Fg} {elts : List Expr} {kk : Nat} {tpos : Pos} (a e it : Addr) :
    Turn P w K (.Tuple elts kk tpos) (IteT K a) [e, it] e (fun i h => (∃ old, IsEnum h e it ((i : Nat) : Int) old) ∧ h.IsTupleIter it a i ∧ e ≠ it ∧ a ≠ it ∧ a ≠ e) where
  mem := by simp
  obj := fun i h st b hb => by
    obtain ⟨⟨old, he⟩, ⟨o, ho, hc, hd⟩, _⟩ := st
    have e' : b = e ∨ b = it := by simpa using hb
    rcases e' with z | z
    · rw [z]; exact ⟨_, he, fun v q => nomatch q⟩
    · rw [z]; exact ⟨o, ho, fun v q => by rw [hd] at q; cases q⟩
  keep := fun i h h' st k => let ⟨⟨old, he⟩, hi, hne⟩ := st; ⟨⟨old, k e (by simp) _ he⟩, hi.at fun o q => k it (by simp) o q, hne⟩
  item := by
    intro X hP hw hK hc i pins s σ H E I hf st hg
    subst hP hw hK
    obtain ⟨⟨old, he⟩, hit, hne, hai, hae⟩ := st
    obtain ⟨xs, x, hq, hx⟩ := hg
    obtain ⟨its, rv, p, hz⟩ := I.tuple hq
    obtain ⟨u, hu, ru⟩ := rv.get hx
    have hel : e < s.heap.objs.size := Heap.lt_size he
    have hil : it < s.heap.objs.size := by obtain ⟨_, q, _⟩ := hit; exact Heap.lt_size q
    have hlt : i < its.toArray.size := by
      have := (List.getElem?_eq_some_iff.mp hu).1
      simpa using this
    have Dr := Draws.tuple (prog := X.prog) (w := X.w) (A := X.A.in1) (I.ok.hd hc) it a hai its.toArray
    refine wpAny_pyNext_enum_itemD Dr he ⟨hit, p⟩ hlt hne (by simp [hne, Ne.symm hae]) fun y h' tk hP ho hit' hT hsz hk => ?_
    have ey : y = u := by
      have h1 : its[i]? = some y := by simpa using hP
      rw [hu] at h1
      exact (Option.some.inj h1).symm
    subst ey
    refine ⟨_, rfl, wpAny_letOwnedTupleGo_enum (s := { s with heap := h', toks := tk + 1 }) ho fun h'' he' sb => ?_⟩
    have hT2 : h''.get? s.heap.objs.size = some { cls := .type "tuple", data := .seq #[.int i tk, y] } := (sb.2 _ (Nat.ne_of_gt hel)).trans hT
    have new : ObjOk X.prog X.w (upd H s.heap.objs.size (.tup [.int (i : Nat), x])) h'' s.heap.objs.size (.tup [.int (i : Nat), x]) :=
      ⟨by show 2 ≤ sizeLine; decide, [.int i tk, y], .cons ⟨_, rfl⟩ (.cons ru .nil), ⟨_, hT2, rfl, _, rfl⟩⟩
    have I1 : Inv X pins σ (upd H s.heap.objs.size (.tup [.int (i : Nat), x])) { s with heap := h'', toks := tk + 1 } :=
      I.turnedNew (ch := [e, it]) (fun b ob hb q => (sb.2 b (fun z => hb (by simp [z]))).trans (hk b ob (fun z => hb (by simp [z])) (fun z => hb (by simp [z])) q)) hf (Nat.le_refl _) new
    refine ⟨.ref s.heap.objs.size, _, I1, rfl, ⟨_, x, rfl, I.hok.fresh (Nat.le_refl _), rfl, fun ys hy => by rw [I.tuple_inj hy hq]; exact hx⟩, ⟨⟨y, ?_⟩, hit'.1.at fun o q => (sb.2 it (Ne.symm hne)).trans q, hne, hai, hae⟩, fun b hb => ?_⟩
    · have e1 : ((i + 1 : Nat) : Int) = (i : Int) + 1 := by omega
      rw [e1]; exact he'
    · have hb' : b < s.heap.objs.size := by
        have e' : b = e ∨ b = it := by simpa using hb
        rcases e' with z | z
        · rw [z]; exact hel
        · rw [z]; exact hil
      rw [upd_ne (Nat.ne_of_lt hb')]
      exact (hf b hb).1
  done := by
    intro X hP hw hK hc i pins s σ H E I hf st hg
    subst hP hw hK
    obtain ⟨⟨old, he⟩, hit, hne, hai, hae⟩ := st
    obtain ⟨xs, hq, hx⟩ := hg
    obtain ⟨its, rv, p, hz⟩ := I.tuple hq
    obtain ⟨f0, f1, f2, f3, f4, f5⟩ := hf it (by simp)
    have hl := rv.length
    have D0 := Draws.tuple (prog := X.prog) (w := X.w) (A := X.A.in1) (I.ok.hd hc) it a hai its.toArray
    have Dr : Draws X.prog X.w X.A.in1 it [it, a] i (fun _ _ => False) (fun j h => j = i ∧ h.IsTupleIter it a i ∧ h.IsTuple a its.toArray) :=
      ⟨fun _ _ st => let ⟨o, ho, _⟩ := st.2.1; ⟨o, ho⟩, fun _ _ _ st hk => ⟨st.1, st.2.1.at fun o e => hk it (by simp) o e, st.2.2.at fun o e => hk a (by simp) o e⟩, fun j s Q E hj st => absurd st.1 (Nat.ne_of_lt hj), fun s Q E st hE => wpAny_nextOf_tuple_end (I.ok.hd hc) st.2.1 st.2.2 (by simp; omega) hE⟩
    exact wpAny_pyNext_enum_endD Dr he ⟨rfl, hit, p⟩ fun h' eb => ⟨rfl, I.turned (t' := s.toks) (fun b o hb q => eb b o hb q) f0 f1 f3 f4 f5⟩
  self := fun A i s Q E st h => let ⟨⟨_, he⟩, _⟩ := st; wpAny_pyIter_enum he h
theorem turn_enumS {P : Program} {w : World} {K : Fg} {elts : List Expr} {kk : Nat} {tpos : Pos} (z : Str) (t : Tok) (e it : Addr) :
    Turn P w K (.Tuple elts kk tpos) (IteS z) [e, it] e (fun i h => (∃ old, IsEnum h e it ((i : Nat) : Int) old) ∧ h.IsStrIter it (strIterType z) z t i ∧ e ≠ it ∧ i ≤ z.cps.size) where
  mem := by simp
  obj := fun i h st b hb => by
    obtain ⟨⟨old, he⟩, ⟨o, ho, hc, hd⟩, _⟩ := st
    have e' : b = e ∨ b = it := by simpa using hb
    rcases e' with z | z
    · rw [z]; exact ⟨_, he, fun v q => nomatch q⟩
    · rw [z]; exact ⟨o, ho, fun v q => by rw [hd] at q; cases q⟩
  keep := fun i h h' st k => let ⟨⟨old, he⟩, ⟨o, ho, r⟩, hne⟩ := st; ⟨⟨old, k e (by simp) _ he⟩, ⟨o, k it (by simp) o ho, r⟩, hne⟩
  item := by
    intro X hP hw hK hc i pins s σ H E I hf st hg
    subst hP hw hK
    obtain ⟨⟨old, he⟩, hit, hne, hle⟩ := st
    have hel : e < s.heap.objs.size := Heap.lt_size he
    have hil : it < s.heap.objs.size := by obtain ⟨_, q, _⟩ := hit; exact Heap.lt_size q
    have Dr := Draws.text (prog := X.prog) (w := X.w) (A := X.A.in1) (I.ok.hd hc) it z t
    refine wpAny_pyNext_enum_itemD Dr he hit hg hne (by simp [hne]) fun y h' tk hP ho hit' hT hsz hk => ?_
    obtain ⟨c, u, hcz, rfl⟩ := hP
    refine ⟨_, rfl, wpAny_letOwnedTupleGo_enum (s := { s with heap := h', toks := tk + 1 }) ho fun h'' he' sb => ?_⟩
    have hT2 : h''.get? s.heap.objs.size = some { cls := .type "tuple", data := .seq #[.int i tk, .str ⟨#[c]⟩ u] } := (sb.2 _ (Nat.ne_of_gt hel)).trans hT
    have new : ObjOk X.prog X.w (upd H s.heap.objs.size (.tup [.int (i : Nat), .str ⟨#[c]⟩])) h'' s.heap.objs.size (.tup [.int (i : Nat), .str ⟨#[c]⟩]) :=
      ⟨by show 2 ≤ sizeLine; decide, [.int i tk, .str ⟨#[c]⟩ u], .cons ⟨_, rfl⟩ (.cons ⟨_, rfl⟩ .nil), ⟨_, hT2, rfl, _, rfl⟩⟩
    have I1 : Inv X pins σ (upd H s.heap.objs.size (.tup [.int (i : Nat), .str ⟨#[c]⟩])) { s with heap := h'', toks := tk + 1 } :=
      I.turnedNew (ch := [e, it]) (fun b ob hb q => (sb.2 b (fun z => hb (by simp [z]))).trans (hk b ob (fun z => hb (by simp [z])) (fun z => hb (by simp [z])) q)) hf (Nat.le_refl _) new
    refine ⟨.ref s.heap.objs.size, _, I1, rfl, ⟨_, c, rfl, I.hok.fresh (Nat.le_refl _), rfl, hcz⟩, ⟨⟨.str ⟨#[c]⟩ u, ?_⟩, Dr.frame (i + 1) _ _ hit' (fun b hb o q => ?_), hne, hg⟩, fun b hb => ?_⟩
    · have e1 : ((i + 1 : Nat) : Int) = (i : Int) + 1 := by omega
      rw [e1]; exact he'
    · have : b = it := by simpa using hb
      subst this
      exact (sb.2 b (Ne.symm hne)).trans q
    · have hb' : b < s.heap.objs.size := by
        have e' : b = e ∨ b = it := by simpa using hb
        rcases e' with z | z
        · rw [z]; exact hel
        · rw [z]; exact hil
      rw [upd_ne (Nat.ne_of_lt hb')]
      exact (hf b hb).1
  done := by
    intro X hP hw hK hc i pins s σ H E I hf st hg
    subst hP hw hK
    obtain ⟨⟨old, he⟩, hit, hne, hle⟩ := st
    have ei : i = z.cps.size := Nat.le_antisymm hle hg
    subst ei
    obtain ⟨f0, f1, f2, f3, f4, f5⟩ := hf it (by simp)
    have Dr := Draws.text (prog := X.prog) (w := X.w) (A := X.A.in1) (I.ok.hd hc) it z t
    exact wpAny_pyNext_enum_endD Dr he hit fun h' eb => ⟨rfl, I.turned (t' := s.toks) (fun b o hb q => eb b o hb q) f0 f1 f3 f4 f5⟩
  self := fun A i s Q E st h => let ⟨⟨_, he⟩, _⟩ := st; wpAny_pyIter_enum he h
def iEnumA (K : Fg) (ta : TA) : TI := fun σ H R => ta σ H fun vs H1 => (∃ a xs, vs = [.ref a] ∧ SqT K H1 a xs ∧ R (IteT K a) H1) ∨ (∃ z, vs = [.str z] ∧ R (IteS z) H1)
theorem pi_enumA {X : Cx} {e : Expr} {ta : TA} {p pos tpos : Pos} {elts : List Expr} {kk : Nat} (hg : Gl X "enumerate") (hm : X.mg "enumerate" = none) (ha : PA X [e] ta) (hs : starEach [e] X.env = [(false, eval e X.env)] := by rfl) :
    PI X (.Tuple elts kk tpos) (.Call (.Name "enumerate" p) [e] [] pos) (iEnumA X.K ta) := by
  refine ⟨fun pins s σ H R I h => ?_⟩
  refine PyProof.Rows.Call_ (ld_blt I hg hm (PyProof.Rows.boot_enumerate) (PyProof.Rows.callWith_type1 (thn (ha.run pos pins s σ H _ I h) fun us s1 ⟨vs, H1, I1, r1, q1⟩ => ?_) hs rfl))
  rcases q1 with ⟨a, xs, ex, hq, q⟩ | ⟨z, ex, q⟩
  · subst ex
    cases r1 with
    | cons r rr =>
      cases rr
      cases r
      obtain ⟨its, rv, p', hz⟩ := I1.tuple hq
      have hal : a < s1.heap.objs.size := p'.lt
      refine call_enumT p' fun h' he hit hsz hk => wpAny_pyIter_enum he ?_
      have I2 : Inv X pins σ H1 { s1 with heap := h' } := I1.kept (t' := s1.toks) hk
      refine ⟨s1.heap.objs.size + 1, [s1.heap.objs.size + 1, s1.heap.objs.size], _, _, H1, rfl, I2, turn_enumT a (s1.heap.objs.size + 1) s1.heap.objs.size, ⟨⟨.none, he⟩, hit, Nat.succ_ne_self _, Nat.ne_of_lt hal, Nat.ne_of_lt (Nat.lt_succ_of_lt hal)⟩, fun b hb => ?_, q⟩
      have e' : b = s1.heap.objs.size + 1 ∨ b = s1.heap.objs.size := by simpa using hb
      have hle : s1.heap.objs.size ≤ b := by
        rcases e' with z | z
        · rw [z]; exact Nat.le_add_right _ _
        · rw [z]; exact Nat.le_refl _
      exact I1.fpOk hle (I1.hok.fresh hle)
  · subst ex
    cases r1 with
    | cons r rr =>
      cases rr
      obtain ⟨t, rfl⟩ := r
      refine call_enumerate_str fun h' he hit hsz hk => wpAny_pyIter_enum he ?_
      have I2 : Inv X pins σ H1 { s1 with heap := h' } := I1.kept (t' := s1.toks) hk
      refine ⟨s1.heap.objs.size + 1, [s1.heap.objs.size + 1, s1.heap.objs.size], _, _, H1, rfl, I2, turn_enumS z t (s1.heap.objs.size + 1) s1.heap.objs.size, ⟨⟨.none, he⟩, hit, Nat.succ_ne_self _, Nat.zero_le _⟩, fun b hb => ?_, q⟩
      have e' : b = s1.heap.objs.size + 1 ∨ b = s1.heap.objs.size := by simpa using hb
      have hle : s1.heap.objs.size ≤ b := by
        rcases e' with z | z
        · rw [z]; exact Nat.le_add_right _ _
        · rw [z]; exact Nat.le_refl _
      exact I1.fpOk hle (I1.hok.fresh hle)
/-- numbered data -/
def enumD (ds : List D) : List D := ds.zipIdx.map fun p => .tuple [.int (p.2 : Nat), p.1]
theorem enumD_len {ds : List D} : (enumD ds).length = ds.length := by unfold enumD; rw [List.length_map, List.length_zipIdx]
theorem enumD_get {ds : List D} {i : Nat} {d : D} (h : (enumD ds)[i]? = some d) : ∃ x, ds[i]? = some x ∧ d = .tuple [.int (i : Nat), x] := by
  unfold enumD at h
  rw [List.getElem?_map, List.getElem?_zipIdx] at h
  cases q : ds[i]? with
  | none => rw [q] at h; cases h
  | some x =>
    rw [q] at h
    cases h
    exact ⟨x, rfl, by simp⟩
theorem wkd_enumT {K : Fg} {Hs : Hp} {a : Addr} {vs : List V} {ds : List D} (h : SqT K Hs a vs) (p : DqAll K Hs vs ds) : WkD false K (IteT K a) Hs (enumD ds) where
  go := fun i H s hi => by
    rw [enumD_len] at hi
    have h1 : i < vs.length := by rw [p.len]; exact hi
    exact ⟨vs, vs[i], sqT_mono s h, List.getElem?_eq_getElem h1⟩
  stop := fun H s => ⟨vs, sqT_mono s h, by rw [enumD_len, p.len]; exact Nat.le_refl _⟩
  yld := fun i Hs1 H x H' d s1 s2 e y => by
    obtain ⟨T, v, rfl, hT, rfl, y1⟩ := y
    obtain ⟨x, e1, rfl⟩ := enumD_get e
    obtain ⟨v', f1, f2⟩ := p.get e1
    have z1 := y1 vs (sqT_mono (s1.trans s2) h)
    rw [f1] at z1; cases z1
    exact ⟨_, pair_new s2 hT (.int _) (dp_mono s1 f2)⟩
theorem wkd_enumS {K : Fg} {Hs : Hp} {z : Str} : WkD false K (IteS z) Hs (enumD (signsD z)) where
  go := fun i H s hi => by rw [enumD_len] at hi; unfold signsD at hi; rw [List.length_map, Array.length_toList] at hi; exact hi
  stop := fun H s => by rw [enumD_len]; unfold signsD; rw [List.length_map, Array.length_toList]; exact Nat.le_refl _
  yld := fun i Hs1 H x H' d s1 s2 e y => by
    obtain ⟨T, c, rfl, hT, rfl, y1⟩ := y
    obtain ⟨x, e1, rfl⟩ := enumD_get e
    unfold signsD at e1
    rw [List.getElem?_map, Array.getElem?_toList, y1] at e1
    cases e1
    exact ⟨_, pair_new s2 hT (.int _) (.str _)⟩
section
variable {X : Cx} {M : Mem} {iter e a : Expr} {ρ : Env} {ds : List D} {pos p tpos : Pos} {elts : List Expr} {kk : Nat}
theorem pid_enumT (hg : Gl X "enumerate") (hm : X.mg "enumerate" = none) (h : PD X a ρ M (.tuple ds)) (hs : starEach [a] X.env = [(false, eval a X.env)] := by rfl) : PID X false (.Tuple elts kk tpos) (.Call (.Name "enumerate" p) [a] [] pos) ρ M (enumD ds) :=
  pid_of (pi_enumA hg hm (pa_cons pe_w pa_nil hs) hs) fun Hs H σ R i r k => h.run Hs H σ _ i r fun v Hs1 H1 g1 p1 => by
    obtain ⟨a1, vs, rfl, ha, pa⟩ := dp_tup p1
    exact .inl ⟨a1, vs, rfl, sqT_mono g1.i ha.sq, k _ Hs1 H1 g1 (wkd_enumT ha.sq pa)⟩
theorem pid_enumS {z : Str} (hg : Gl X "enumerate") (hm : X.mg "enumerate" = none) (h : PD X a ρ M (.str z)) (hs : starEach [a] X.env = [(false, eval a X.env)] := by rfl) : PID X false (.Tuple elts kk tpos) (.Call (.Name "enumerate" p) [a] [] pos) ρ M (enumD (signsD z)) :=
  pid_of (pi_enumA hg hm (pa_cons pe_w pa_nil hs) hs) fun Hs H σ R i r k => h.run Hs H σ _ i r fun v Hs1 H1 g1 p1 => .inr ⟨z, by rw [dp_str p1], k _ Hs1 H1 g1 wkd_enumS⟩
end
end AB
namespace AB
open PySem L2
/-- what may have happened: data grew, things of the memory changed, all else stands -/
structure Fr (Hs H : Hp) (M : Mem) (Hs' H' : Hp) (M' : Mem) : Prop where
  s : Same Hs Hs'
  k : ∀ a o, H a = some o → M a = none → H' a = some o
  n : ∀ a, Hs a = none → Hs' a ≠ none → H a = none ∨ M a ≠ none
  f : ∀ a, M a = none → M' a ≠ none → H a = none
  t : ∀ a, H a ≠ none → H' a ≠ none
section
variable {K : Fg} {Hs H Hs' H' Hs1 H1 Hs2 H2 : Hp} {M M' M1 M2 : Mem}
theorem Fr.refl : Fr Hs H M Hs H M := ⟨Same.refl _, fun _ _ h _ => h, fun _ h1 h2 => absurd h1 h2, fun _ h1 h2 => absurd h1 h2, fun _ h => h⟩
theorem Fr.trans (a : Fr Hs H M Hs1 H1 M1) (b : Fr Hs1 H1 M1 Hs2 H2 M2) : Fr Hs H M Hs2 H2 M2 where
  s := a.s.trans b.s
  k := fun x o h m => b.k x o (a.k x o h m) (by
    cases q : M1 x with
    | none => rfl
    | some z => rw [a.f x m (by rw [q]; intro z; cases z)] at h; cases h)
  n := fun x h1 h2 => by
    cases q : Hs1 x with
    | some z => exact a.n x h1 (by rw [q]; intro z; cases z)
    | none =>
      rcases b.n x q h2 with e | e
      · refine .inl ?_
        cases q2 : H x with
        | none => rfl
        | some z => exact absurd e (a.t x (by rw [q2]; intro z; cases z))
      · cases q2 : M x with
        | some z => exact .inr (by intro z; cases z)
        | none => exact .inl (a.f x q2 e)
  f := fun x h1 h2 => by
    cases q : M1 x with
    | some z => exact a.f x h1 (by rw [q]; intro z; cases z)
    | none =>
      have e := b.f x q h2
      cases q2 : H x with
      | none => rfl
      | some z => exact absurd e (a.t x (by rw [q2]; intro z; cases z))
  t := fun x h => b.t x (a.t x h)
theorem Grow.fr (g : Grow Hs H Hs' H') : Fr Hs H M Hs' H' M where
  s := g.s
  k := fun a o h _ => g.h a o h
  n := fun a h1 h2 => by
    cases q : H a with
    | none => exact .inl rfl
    | some z => exact absurd (g.n a h1 (by rw [q]; intro z; cases z)) h2
  f := fun _ h1 h2 => absurd h1 h2
  t := fun a h => by
    cases q : H a with
    | none => exact absurd q h
    | some z => rw [g.h a z q]; intro z; cases z
theorem Fr.grow0 (r : RelM K Hs' H' M') (f : Fr Hs H m0 Hs' H' M') : Grow Hs H Hs' H' :=
  ⟨fun a o h => f.k a o h rfl, f.s, r.i, fun a h1 h2 => by
    cases q : Hs' a with
    | none => rfl
    | some z =>
      rcases f.n a h1 (by rw [q]; intro z; cases z) with e | e
      · exact absurd e h2
      · exact absurd rfl e⟩
end

/-! ### statements -/
structure Post where
  nx : Env → Mem → Prop
  rt : Sl → Mem → Prop
  bk : Env → Mem → Prop := fun _ _ => False
  ct : Env → Mem → Prop := fun _ _ => False
structure Acc (K : Fg) (Hs H : Hp) (M : Mem) (Φ : Post) (E : Ends) : Prop where
  nx : ∀ Hs' H' M' σ' ρ', RelM K Hs' H' M' → Fr Hs H M Hs' H' M' → EnvR K Hs' σ' ρ' → Φ.nx ρ' M' → E.nx σ' H'
  rt : ∀ Hs' H' M' v s, RelM K Hs' H' M' → Fr Hs H M Hs' H' M' → SlV K Hs' v s → Φ.rt s M' → E.rt v H'
  bk : ∀ Hs' H' M' σ' ρ', RelM K Hs' H' M' → Fr Hs H M Hs' H' M' → EnvR K Hs' σ' ρ' → Φ.bk ρ' M' → E.bk σ' H'
  ct : ∀ Hs' H' M' σ' ρ', RelM K Hs' H' M' → Fr Hs H M Hs' H' M' → EnvR K Hs' σ' ρ' → Φ.ct ρ' M' → E.ct σ' H'
theorem Acc.fr {K : Fg} {Hs H Hs1 H1 : Hp} {M M1 : Mem} {Φ : Post} {E : Ends} (a : Acc K Hs H M Φ E) (f : Fr Hs H M Hs1 H1 M1) : Acc K Hs1 H1 M1 Φ E :=
  ⟨fun Hs' H' M' σ' ρ' r g => a.nx Hs' H' M' σ' ρ' r (f.trans g), fun Hs' H' M' v s r g => a.rt Hs' H' M' v s r (f.trans g), fun Hs' H' M' σ' ρ' r g => a.bk Hs' H' M' σ' ρ' r (f.trans g), fun Hs' H' M' σ' ρ' r g => a.ct Hs' H' M' σ' ρ' r (f.trans g)⟩
structure DS (X : Cx) (st : Stmt) (ρ : Env) (M : Mem) (Φ : Post) : Prop where
  run : ∀ (Hs H : Hp) (σ : L2.St) (E : Ends), RelM X.K Hs H M → EnvR X.K Hs σ ρ → Acc X.K Hs H M Φ E → tWs X st E σ H
structure DSs (X : Cx) (sts : List Stmt) (ρ : Env) (M : Mem) (Φ : Post) : Prop where
  run : ∀ (Hs H : Hp) (σ : L2.St) (E : Ends), RelM X.K Hs H M → EnvR X.K Hs σ ρ → Acc X.K Hs H M Φ E → tWss X sts E σ H
section
variable {X : Cx} {st : Stmt} {sts els : List Stmt} {ρ : Env} {M : Mem} {Φ : Post} {e c tg iter : Expr} {d : D} {pos : Pos}
theorem dss_nil (h : Φ.nx ρ M) : DSs X [] ρ M Φ := ⟨fun Hs H σ E r q a => PSs.w pss_nil (a.nx Hs H M σ ρ r .refl q h)⟩
theorem dss_cons (h : DS X st ρ M { Φ with nx := fun ρ' M' => DSs X sts ρ' M' Φ }) : DSs X (st :: sts) ρ M Φ :=
  ⟨fun Hs H σ E r q a => PSs.w (pss_cons ps_w pss_w) (h.run Hs H σ _ r q ⟨fun Hs' H' M' σ' ρ' r' f q' k => k.run Hs' H' σ' E r' q' (a.fr f), a.rt, a.bk, a.ct⟩)⟩
theorem dss_one (h : DS X st ρ M Φ) : DSs X [st] ρ M Φ := ⟨fun Hs H σ E r q a => PSs.w (pss_one ps_w) (h.run Hs H σ E r q a)⟩
theorem ds_pass (h : Φ.nx ρ M) : DS X (.Pass pos) ρ M Φ := ⟨fun Hs H σ E r q a => PS.w ps_pass (a.nx Hs H M σ ρ r .refl q h)⟩
theorem ds_break (h : Φ.bk ρ M) : DS X (.Break pos) ρ M Φ := ⟨fun Hs H σ E r q a => PS.w ps_break (a.bk Hs H M σ ρ r .refl q h)⟩
theorem ds_cont (h : Φ.ct ρ M) : DS X (.Continue pos) ρ M Φ := ⟨fun Hs H σ E r q a => PS.w ps_continue (a.ct Hs H M σ ρ r .refl q h)⟩
theorem ds_ret (he : PD X e ρ M d) (h : Φ.rt (.d d) M) : DS X (.Return (some e) pos) ρ M Φ :=
  ⟨fun Hs H σ E r q a => PS.w (ps_ret pe_w) (he.run Hs H σ _ r q fun v Hs1 H1 g p => a.rt Hs1 H1 M v _ (r.grow g) g.fr (slv_d p) h)⟩
theorem ds_set (i : Nat) {x : Str} {pos' : Pos} (hN : X.N.Nodup) (he : PD X e ρ M d) (h : Φ.nx (ρ.set i (.d d)) M) (hi : X.N[i]? = some x := by rfl) (hx : Loc X.env.scope x := by first | exact Or.inl rfl | exact Or.inr rfl) (hs : swapsWith e (some (.Name x pos')) pos.line X.env = pure false := by rfl)
    (hf : X.fn x = true ∨ X.env.scope.names.lookup x = some .local := by first | exact .inl rfl | exact .inr rfl | assumption) : DS X (.Assign [.Name x pos'] e pos) ρ M Φ :=
  ⟨fun Hs H σ E r q a => PS.w (ps_set hN hi hx pe_w hs hf) (he.run Hs H σ _ r q fun v Hs1 H1 g p => a.nx Hs1 H1 M _ _ (r.grow g) g.fr ((q.mono g.s).set i (s := .d d) ⟨v, rfl, p⟩) h)⟩
/-- target = e -/
theorem ds_asg {ρ1 : Env} {ts : List Nat} (he : PD X e ρ M d) (hg : PGD X true tg d ρ ρ1 ts) (h : Φ.nx ρ1 M) (hs : swapsWithSole [tg] e pos.line X.env = pure false := by rfl) (hw : swappedStores [tg] e X.env = pure none := by rfl)
    (h1 : (assignEach [tg] X.env).map (·.2) = [assign tg X.env] := by rfl) : DS X (.Assign [tg] e pos) ρ M Φ :=
  ⟨fun Hs H σ E r q a => PS.w (ps_asg pe_w pg_w hs hw h1) (he.run Hs H σ _ r q fun v Hs1 H1 g p => hg.run Hs1 H1 σ v _ g.i (q.mono g.s) p fun σ' q' _ => a.nx Hs1 H1 M _ _ (r.grow g) g.fr q' h)⟩
theorem ds_if {b : Bool} {sa sb : List Stmt} (hc : PTD X c ρ M b) (h1 : b = true → DSs X sa ρ M Φ) (h2 : b = false → DSs X sb ρ M Φ) : DS X (.If c sa sb pos) ρ M Φ :=
  ⟨fun Hs H σ E r q a => PS.w (ps_if pt_w pss_w pss_w) (hc.run Hs H σ _ r q fun Hs1 H1 g => by
    cases b with
    | true => exact iteT ((h1 rfl).run Hs1 H1 σ E (r.grow g) (q.mono g.s) (a.fr g.fr))
    | false => exact iteF ((h2 rfl).run Hs1 H1 σ E (r.grow g) (q.mono g.s) (a.fr g.fr)))⟩
/-- an expression whose value is dropped -/
theorem ds_expr (he : PD X e ρ M d) (h : Φ.nx ρ M) (hs : swapsWith e none pos.line X.env = pure false := by rfl) : DS X (.Expr e pos) ρ M Φ :=
  ⟨fun Hs H σ E r q a => PS.w (ps_expr pe_w hs) (he.run Hs H σ _ r q fun v Hs1 H1 g p => a.nx Hs1 H1 M _ _ (r.grow g) g.fr (q.mono g.s) h)⟩
theorem DSs.imp {Ψ : Post} (h : DSs X sts ρ M Ψ) (n : ∀ ρ M, Ψ.nx ρ M → Φ.nx ρ M) (t : ∀ s M, Ψ.rt s M → Φ.rt s M) (b : ∀ ρ M, Ψ.bk ρ M → Φ.bk ρ M) (c : ∀ ρ M, Ψ.ct ρ M → Φ.ct ρ M) : DSs X sts ρ M Φ :=
  ⟨fun Hs H σ E r q a => h.run Hs H σ E r q ⟨fun _ _ _ _ _ r f q k => a.nx _ _ _ _ _ r f q (n _ _ k), fun _ _ _ _ _ r f q k => a.rt _ _ _ _ _ r f q (t _ _ k), fun _ _ _ _ _ r f q k => a.bk _ _ _ _ _ r f q (b _ _ k), fun _ _ _ _ _ r f q k => a.ct _ _ _ _ _ r f q (c _ _ k)⟩⟩
theorem DSs.weak {ρ' : Env} (h : DSs X sts ρ' M Φ) (hl : ρ'.length = ρ.length) (w : ∀ (i : Nat) (s : Sl), ρ'[i]? = some s → s = .u ∨ ρ[i]? = some s) : DSs X sts ρ M Φ := ⟨fun Hs H σ E r q a => h.run Hs H σ E r (q.weak hl w) a⟩
/-! loops: W, a word of the turn, the slots and the memory -/
theorem ds_for {S : Bool} {ds : List D} {body : List Stmt} (W : Nat → Env → Mem → Prop) (hp : PassesOwn (model X.prog X.w) X.A X.env X.xe) (hc : X.calm = true) (hi : PID X S tg iter ρ M ds) (h0 : W 0 ρ M)
    (ht : ∀ i d ρ' M', ds[i]? = some d → W i ρ' M' → ∃ ρ1 ts, PGD X S tg d ρ' ρ1 ts ∧ DSs X body ρ1 M' { Φ with nx := W (i + 1), ct := W (i + 1), bk := Φ.nx }) (hd : ∀ ρ' M', W ds.length ρ' M' → Φ.nx ρ' M')
    (hs : ∀ x, foldedSetIterable iter X.env x = pure x := by intro _; rfl) : DS X (.For tg iter body [] pos) ρ M Φ :=
  ⟨fun Hs H σ E r q a => PS.w (ps_for hp hc pi_w pg_w pss_w hs) (hi.run Hs H σ _ r q fun J Hs1 H1 g1 wk => by
    refine ⟨fun i m σ' H' => m = ds.length - i ∧ i ≤ ds.length ∧ ∃ Hs' M' ρ', RelM X.K Hs' H' M' ∧ Fr Hs H M Hs' H' M' ∧ Same Hs1 Hs' ∧ EnvR X.K Hs' σ' ρ' ∧ W i ρ' M', ⟨ds.length, by simp, Nat.zero_le _, Hs1, M, ρ, r.grow g1, g1.fr, Same.refl _, q.mono g1.s, h0⟩, ?_⟩
    rintro j m σ' H' ⟨rfl, hj, Hs', M', ρ', r', f', s', q', w'⟩
    by_cases hlt : j < ds.length
    · refine .inr ⟨wk.go j H' (s'.trans r'.i) hlt, fun σ2 H2 => ∃ Hs2 M2 ρ2, RelM X.K Hs2 H2 M2 ∧ Fr Hs H M Hs2 H2 M2 ∧ Same Hs1 Hs2 ∧ EnvR X.K Hs2 σ2 ρ2 ∧ W (j + 1) ρ2 M2, fun σ2 H2 w => ⟨_, by omega, rfl, hlt, w⟩, fun x H2 y => ?_⟩
      obtain ⟨d, hd⟩ : ∃ d, ds[j]? = some d := ⟨_, List.getElem?_eq_getElem hlt⟩
      obtain ⟨Hs2, g2, p2⟩ := wk.yld j Hs' H' x H2 d s' r'.i hd y
      obtain ⟨ρ1, ts, hg, hb⟩ := ht j d ρ' M' hd w'
      refine hg.run Hs2 H2 σ' x _ g2.i (q'.mono g2.s) p2 fun σ2 q2 _ => ?_
      refine hb.run Hs2 H2 σ2 _ (r'.grow g2) q2 ⟨fun Hs3 H3 M3 σ3 ρ3 r3 f3 q3 k => ⟨Hs3, M3, ρ3, r3, (f'.trans g2.fr).trans f3, (s'.trans g2.s).trans f3.s, q3, k⟩, fun Hs3 H3 M3 v s r3 f3 q3 k => a.rt Hs3 H3 M3 v s r3 ((f'.trans g2.fr).trans f3) q3 k, fun Hs3 H3 M3 σ3 ρ3 r3 f3 q3 k => a.nx Hs3 H3 M3 σ3 ρ3 r3 ((f'.trans g2.fr).trans f3) q3 k, fun Hs3 H3 M3 σ3 ρ3 r3 f3 q3 k => ⟨Hs3, M3, ρ3, r3, (f'.trans g2.fr).trans f3, (s'.trans g2.s).trans f3.s, q3, k⟩⟩
    · have ej : j = ds.length := by omega
      subst ej
      exact .inl ⟨wk.stop H' (s'.trans r'.i), a.nx Hs' H' M' σ' ρ' r' f' q' (hd ρ' M' w')⟩)⟩
theorem ds_while {body : List Stmt} (W : Nat → Env → Mem → Prop) (m : Nat) (hp : PassesOwn (model X.prog X.w) X.A X.env X.xe) (h0 : W m ρ M)
    (ht : ∀ n ρ' M', W n ρ' M' → ∃ b, PTD X c ρ' M' b ∧ (b = true → DSs X body ρ' M' { Φ with nx := fun ρ2 M2 => ∃ n', n' < n ∧ W n' ρ2 M2, ct := fun ρ2 M2 => ∃ n', n' < n ∧ W n' ρ2 M2, bk := Φ.nx }) ∧ (b = false → Φ.nx ρ' M')) : DS X (.While c body [] pos) ρ M Φ :=
  ⟨fun Hs H σ E r q a => PS.w (ps_while hp pt_w pss_w) (by
    refine ⟨fun n σ' H' => ∃ Hs' M' ρ', RelM X.K Hs' H' M' ∧ Fr Hs H M Hs' H' M' ∧ EnvR X.K Hs' σ' ρ' ∧ W n ρ' M', ⟨m, Hs, M, ρ, r, .refl, q, h0⟩, ?_⟩
    rintro n σ' H' ⟨Hs', M', ρ', r', f', q', w'⟩
    obtain ⟨b, hb, h1, h2⟩ := ht n ρ' M' w'
    refine hb.run Hs' H' σ' _ r' q' fun Hs1 H1 g => ?_
    cases b with
    | true =>
      refine iteT ⟨fun σ2 H2 => ∃ n', n' < n ∧ ∃ Hs2 M2 ρ2, RelM X.K Hs2 H2 M2 ∧ Fr Hs H M Hs2 H2 M2 ∧ EnvR X.K Hs2 σ2 ρ2 ∧ W n' ρ2 M2, fun σ2 H2 ⟨n', h, w⟩ => ⟨n', h, w⟩, ?_⟩
      exact (h1 rfl).run Hs1 H1 σ' _ (r'.grow g) (q'.mono g.s) ⟨fun Hs3 H3 M3 σ3 ρ3 r3 f3 q3 ⟨n', h, k⟩ => ⟨n', h, Hs3, M3, ρ3, r3, (f'.trans g.fr).trans f3, q3, k⟩, fun Hs3 H3 M3 v s r3 f3 q3 k => a.rt Hs3 H3 M3 v s r3 ((f'.trans g.fr).trans f3) q3 k, fun Hs3 H3 M3 σ3 ρ3 r3 f3 q3 k => a.nx Hs3 H3 M3 σ3 ρ3 r3 ((f'.trans g.fr).trans f3) q3 k, fun Hs3 H3 M3 σ3 ρ3 r3 f3 q3 ⟨n', h, k⟩ => ⟨n', h, Hs3, M3, ρ3, r3, (f'.trans g.fr).trans f3, q3, k⟩⟩
    | false => exact iteF (a.nx Hs1 H1 M' σ' ρ' (r'.grow g) (f'.trans g.fr) (q'.mono g.s) (h2 rfl)))⟩
/-! a list of one's own -/
/-- x = [] -/
theorem ds_newL (i : Nat) {x : Str} {pos' p2 : Pos} (hN : X.N.Nodup) (h : ∀ a, M a = none → Φ.nx (ρ.set i (.v (.ref a))) (mup M a (.lst []))) (hi : X.N[i]? = some x := by rfl) (hx : Loc X.env.scope x := by first | exact Or.inl rfl | exact Or.inr rfl) (hs : swapsWith (.List [] p2) (some (.Name x pos')) pos.line X.env = pure false := by rfl)
    (hf : X.fn x = true ∨ X.env.scope.names.lookup x = some .local := by first | exact .inl rfl | exact .inr rfl | assumption) : DS X (.Assign [.Name x pos'] (.List [] p2) pos) ρ M Φ :=
  ⟨fun Hs H σ E r q a => PS.w (ps_set hN hi hx (pe_lst pa_nil) hs hf) ⟨Nat.zero_le _, fun p hp => by
    have hM : M p = none := by
      cases z : M p with
      | none => rfl
      | some mo => obtain ⟨_, o, h2, _⟩ := r.m p mo z; rw [hp] at h2; cases h2
    refine a.nx Hs (upd H p (.lst [])) (mup M p (.lst [])) _ _ ⟨r.i.trans (same_upd hp), fun b mo e => ?_⟩ ⟨Same.refl _, fun b o h _ => same_upd hp b o h, fun _ h1 h2 => absurd h1 h2, fun b h1 h2 => ?_, fun b h => ?_⟩ (q.set i (s := .v (.ref p)) rfl) (h p hM)
    · by_cases hb : b = p
      · subst hb
        rw [mup_same] at e
        cases e
        exact ⟨r.i.free hp, _, upd_same, .nil⟩
      · rw [mup_ne hb] at e
        obtain ⟨h1, o, h2, h3⟩ := r.m b mo e
        exact ⟨h1, o, by rw [upd_ne hb]; exact h2, h3⟩
    · by_cases hb : b = p
      · subst hb; exact hp
      · rw [mup_ne hb] at h2; exact absurd h1 h2
    · by_cases hb : b = p
      · subst hb; rw [upd_same]; intro z; cases z
      · rw [upd_ne hb]; exact h⟩⟩
/-- xs.append(e), xs a list of one's own -/
theorem ds_app (i : Nat) {x : Str} {p apos cpos : Pos} {l : Addr} {ss : List Sl} (hl : ρ[i]? = some (.v (.ref l))) (hm : M l = some (.lst ss)) (he : PD X e ρ M d) (hz : ss.length < 16000000) (h : Φ.nx ρ (mup M l (.lst (ss ++ [.d d]))))
    (hN : X.N[i]? = some x := by rfl) (hv : Vis X.env.scope x := by first | exact Or.inl rfl | exact Or.inr (Or.inl rfl) | exact Or.inr (Or.inr rfl)) (hd : (x == ("__debug__" : Str)) = false := by decide) (hcd : (x == ("__classdict__" : Str)) = false := by decide)
    (hbase : attributeBase (.Name x p) "append" X.env (eval (.Name x p) X.env) = eval (.Name x p) X.env := by rfl)
    (hfew : ((backTo cpos (starEach [e] X.env)).all (fun x => !x.1) && (backToKw cpos (keywordEach [] X.env)).all (fun x => x.1.isSome)
      && decide ([e].length + ([] : List Keyword).length + (if ([] : List Keyword).isEmpty then 0 else 1) < 30)) = true := by rfl)
    (hline : (apos.endLine == cpos.line) = true := by rfl) (hs : starEach [e] X.env = (false, eval e X.env) :: starEach [] X.env := by rfl) (hplain : (backTo cpos (starEach [] X.env)).any (·.1) = false := by rfl) (hsw : swapsWith (.Call (.Attribute (.Name x p) "append" apos) [e] [] cpos) none pos.line X.env = pure false := by rfl) :
    DS X (.Expr (.Call (.Attribute (.Name x p) "append" apos) [e] [] cpos) pos) ρ M Φ :=
  ⟨fun Hs H σ E r q a => PS.w (ps_expr (pe_bm PySem.F.plainAttrs_list PySem.F.slot_list_append PySem.F.type_list_append mt_append (pe_var hN hv hd hcd) (pa_cons pe_w pa_nil hs) hbase hfew hline hs hplain) hsw) (by
    obtain ⟨h1, o, h2, h3⟩ := r.m l _ hm
    cases o with
    | lst vs =>
      refine ⟨.ref l, q.getV hl, .inl ⟨rfl, _, .of h2⟩, ?_⟩
      refine he.run Hs H σ _ r q fun v Hs1 H1 g p => ⟨l, vs, v, rfl, rfl, g.h _ _ h2, ?_, ?_⟩
      · have := Paired.length h3
        have : sizeLine = 16777216 := rfl
        omega
      · have r1 := r.grow g
        refine a.nx Hs1 (upd H1 l (.lst (vs ++ [v]))) (mup M l (.lst (ss ++ [.d d]))) σ ρ ⟨fun b o e => ?_, fun b mo e => ?_⟩ ⟨g.s, fun b o hb hn => ?_, (g.fr (M := M)).n, fun b k1 k2 => ?_, fun b hb => ?_⟩ (q.mono g.s) h
        · rw [upd_ne (ne_of_none e (r1.m l _ hm).1)]; exact r1.i b o e
        · by_cases hb : b = l
          · subst hb
            rw [mup_same] at e
            cases e
            refine ⟨(r1.m b _ hm).1, _, upd_same, ?_⟩
            exact paired_app (Paired.mapP h3 fun _ _ z => z.mono g.s) (.cons (slv_d p) .nil)
          · rw [mup_ne hb] at e
            obtain ⟨k1, o, k2, k3⟩ := r1.m b mo e
            exact ⟨k1, o, by rw [upd_ne hb]; exact k2, k3⟩
        · have hb2 : b ≠ l := fun z => by rw [z, hm] at hn; cases hn
          rw [upd_ne hb2]; exact g.h b o hb
        · by_cases hb : b = l
          · rw [hb, hm] at k1; cases k1
          · rw [mup_ne hb] at k2; exact absurd k1 k2
        · by_cases hb2 : b = l
          · subst hb2; rw [upd_same]; intro z; cases z
          · rw [upd_ne hb2]; exact (g.fr (M := M)).t b hb
    | _ => exact h3.elim)⟩
end
/-- a list of one's own that is not changed any more is data -/
theorem paired_data {K : Fg} {Hs : Hp} : ∀ {vs : List V} {ds : List D}, Paired (SlV K Hs) vs (ds.map Sl.d) → DqAll K Hs vs ds
  | [], [], _ => .nil
  | v :: vs, d :: ds, h => by
    cases h with
    | cons a b => exact .cons a.dp (paired_data b)
  | [], _ :: _, h => by cases h
  | _ :: _, [], h => by cases h
theorem dss_freeze {X : Cx} {sts : List Stmt} {ρ : Env} {M : Mem} {Φ : Post} (i : Nat) {l : Addr} {ds : List D} (hl : ρ[i]? = some (.v (.ref l))) (hm : M l = some (.lst (ds.map Sl.d))) (h : DSs X sts (ρ.set i (.d (.list ds))) (mdel M l) Φ) : DSs X sts ρ M Φ :=
  ⟨fun Hs H σ E r q a => by
    obtain ⟨h1, o, h2, h3⟩ := r.m l _ hm
    cases o with
    | lst vs =>
      have p := paired_data h3
      have hs : Same Hs (upd Hs l (.lst vs)) := same_upd h1
      have f : Fr Hs H M (upd Hs l (.lst vs)) H (mdel M l) := ⟨hs, fun b o h _ => h, fun b k1 k2 => by
        by_cases hb : b = l
        · subst hb; rw [hm]; exact .inr (by intro z; cases z)
        · rw [upd_ne hb] at k2; exact absurd k1 k2, fun b k1 k2 => by
        unfold mdel at k2
        split at k2
        · exact absurd rfl k2
        · exact absurd k1 k2, fun b h => h⟩
      have q2 : EnvR X.K (upd Hs l (.lst vs)) σ (ρ.set i (.d (.list ds))) := by
        have e : σ = σ.set i (some (.ref l)) := by
          refine List.ext_getElem? fun j => ?_
          by_cases hj : i = j
          · subst hj
            have hlt : i < σ.length := (List.getElem?_eq_some_iff.mp (q.getV hl)).1
            rw [List.getElem?_set_self hlt]; exact q.getV hl
          · rw [List.getElem?_set_ne hj]
        rw [e]
        exact (q.mono hs).set i ⟨_, rfl, .lst (.of upd_same) (dpAll_mono hs p)⟩
      refine h.run _ H σ E ⟨fun b o e => ?_, fun b mo e => ?_⟩ q2 (a.fr f)
      · by_cases hb : b = l
        · subst hb; rw [upd_same] at e; cases e; exact h2
        · rw [upd_ne hb] at e; exact r.i b o e
      · unfold mdel at e
        split at e
        · cases e
        · rename_i hb
          obtain ⟨k1, o, k2, k3⟩ := r.m b mo e
          exact ⟨by rw [upd_ne hb]; exact k1, o, k2, k3.mono hs⟩
    | _ => exact h3.elim⟩
/-! ### a def's body, by data -/
theorem dpAll_env {K : Fg} {Hs : Hp} {N : List Str} {vs : List V} {ds : List D} (p : DqAll K Hs vs ds) : EnvR K Hs (L2.start N vs) (ds.map Sl.d ++ List.replicate (N.length - ds.length) Sl.u) := by
  refine ⟨by unfold L2.start; simp [p.len], fun i o s h1 h2 => ?_⟩
  unfold L2.start at h1
  by_cases hi : i < ds.length
  · rw [List.getElem?_append_left (by simpa using hi), List.getElem?_map] at h2
    rw [List.getElem?_append_left (by rw [List.length_map, p.len]; exact hi), List.getElem?_map] at h1
    obtain ⟨d, hd⟩ : ∃ d, ds[i]? = some d := ⟨_, List.getElem?_eq_getElem hi⟩
    obtain ⟨v, e1, e2⟩ := p.get hd
    rw [hd] at h2
    rw [e1] at h1
    cases h1; cases h2
    exact ⟨v, rfl, e2⟩
  · rw [List.getElem?_append_right (by simpa using hi), List.getElem?_replicate] at h2
    split at h2
    · cases h2; exact trivial
    · cases h2
/-- where a def's body stands -/
abbrev bCx (P : Program) (w : World) (K : Fg) (mg : Str → Option Value) (base : Heap) (N : List Str) (qual : Str) (st : Stmt) (f : Addr) (cdv : Value) (A : Around) (outer : List PySem.Env) (s : Shared) (H : Hp) (E : XK) : Cx := (cxOf CX0 P w K mg base N qual (defScope st) f cdv A outer s H E).nox
def entry (N : List Str) (ds : List D) : Env := ds.map Sl.d ++ List.replicate (N.length - ds.length) Sl.u
/-- THE RULE for a pure def: from its body's walk by data -/
theorem fn_ok {P : Program} {w : World} {K : Fg} {mg : Str → Option Value} {base : Heap} {x qual : Str} {st : Stmt} {f : Addr} {fd : FuncData} {N ps : List Str} {k : Nat} {F : List D → D → Prop} (Fu : Fun K x qual st f fd) (S : FnScope N ps (defScope st))
    (len : ∀ ds d, F ds d → ds.length = ps.length)
    (body : ∀ (cdv : Value) (A : Around) (outer : List PySem.Env) (s : Shared) (H : Hp) (E : XK) (ds : List D) (d : D), Room k (A.deeper (PyProof.Rows.envOfC qual (defScope st) s.heap.objs.size f cdv)) → F ds d →
      DSs (bCx P w K mg base N qual st f cdv A outer s H E) (defBody st) (entry N ds) m0 { nx := fun _ _ => d = .none, rt := fun s _ => s = .d d }) : FnOk P w K mg base CX0 (k + 1) f fd ps (spD K F) := by
  refine Fu.ok S (fun vs H Q E h => ?_) (fun cdv A outer s H vs Q E hr h => ?_)
  · obtain ⟨Hs, ds, d, i, p, hF, _⟩ := h
    rw [p.len]; exact len ds d hF
  · obtain ⟨Hs, ds, d, i, p, hF, q⟩ := h
    refine ⟨_, pss_w, (body cdv A outer s H E ds d hr hF).run Hs H _ _ (.none i) (dpAll_env p) ⟨fun Hs' H' M' σ' ρ' r f q' k => ?_, fun Hs' H' M' v z r f q' k => ?_, fun _ _ _ _ _ _ _ _ k => k.elim, fun _ _ _ _ _ _ _ _ k => k.elim⟩⟩
    · exact q _ Hs' H' (Fr.grow0 r f) (by rw [show d = .none from k]; exact .non)
    · cases (show z = .d d from k)
      exact q _ Hs' H' (Fr.grow0 r f) q'.dp
theorem def_ok {P : Program} {w : World} {K : Fg} {mg : Str → Option Value} {base : Heap} {x qual : Str} {st : Stmt} {f : Addr} {fd : FuncData} {N ps : List Str} {k : Nat} {F : List D → D → Prop} (Fu : Fun K x qual st f fd) (S : FnScope N ps (defScope st)) (hm : mg x = some (.ref f)) (hb : Binds K fd ps [])
    (len : ∀ ds d, F ds d → ds.length = ps.length)
    (body : ∀ (cdv : Value) (A : Around) (outer : List PySem.Env) (s : Shared) (H : Hp) (E : XK) (ds : List D) (d : D), Room k (A.deeper (PyProof.Rows.envOfC qual (defScope st) s.heap.objs.size f cdv)) → F ds d →
      DSs (bCx P w K mg base N qual st f cdv A outer s H E) (defBody st) (entry N ds) m0 { nx := fun _ _ => d = .none, rt := fun s _ => s = .d d }) : DefD P w K mg base (k + 1) x ps F := ⟨f, fd, fn_ok Fu S len body, hm, Fu.kp, hb⟩
end AB
namespace AB
open PySem L2
/-! ### defs of the text as they stand, built-ins that are not hidden -/
structure Dfn (K : Fg) (mg : Str → Option Value) (x : Str) (st : Stmt) (ps : List Str) : Prop where
  ex : ∃ f fd, Fun K x x st f fd ∧ mg x = some (.ref f) ∧ Binds K fd ps []
theorem def_okD {P : Program} {w : World} {K : Fg} {mg : Str → Option Value} {base : Heap} {x : Str} {st : Stmt} {N ps : List Str} {k : Nat} {F : List D → D → Prop} (h : Dfn K mg x st ps) (S : FnScope N ps (defScope st)) (len : ∀ ds d, F ds d → ds.length = ps.length)
    (body : ∀ (f : Addr) (cdv : Value) (A : Around) (outer : List PySem.Env) (s : Shared) (H : Hp) (E : XK) (ds : List D) (d : D), Room k (A.deeper (PyProof.Rows.envOfC x (defScope st) s.heap.objs.size f cdv)) → F ds d →
      DSs (bCx P w K mg base N x st f cdv A outer s H E) (defBody st) (entry N ds) m0 { nx := fun _ _ => d = .none, rt := fun s _ => s = .d d }) : DefD P w K mg base (k + 1) x ps F := by
  obtain ⟨f, fd, h1, h2, h3⟩ := h.ex
  exact def_ok h1 S h2 h3 len (body f)
/-- the built-ins' names are free -/
structure Bt (mg : Str → Option Value) : Prop where
  len : mg "len" = none
  isi : mg "isinstance" = none
  str : mg "str" = none
  int : mg "int" = none
  bool : mg "bool" = none
  tuple : mg "tuple" = none
  list : mg "list" = none
  all : mg "all" = none
  range : mg "range" = none
  enumerate : mg "enumerate" = none
  zip : mg "zip" = none
  sorted : mg "sorted" = none
  set : mg "set" = none
  dict : mg "dict" = none
  min : mg "min" = none
  max : mg "max" = none
  repr : mg "repr" = none
theorem boot_isi : bootBuiltins "isinstance" = some (.builtin "isinstance") := by decide +kernel
theorem boot_str : bootBuiltins "str" = some (.type "str") := by decide +kernel
theorem boot_int : bootBuiltins "int" = some (.type "int") := by decide +kernel
theorem boot_bool : bootBuiltins "bool" = some (.type "bool") := by decide +kernel
/-! ### draws -/
def cellAt (ns : List Int) (k : Int) : Int := if k < (ns.length : Int) then ns.getD k.toNat 0 else 0
def mixA (c k : Int) : Int := (c + 7919 * k + 1) * 48271 % 2147483647
def mixI (c k : Int) : Int := (mixA c k * mixA c k + 7 * mixA c k + k) % 2147483629
def mixed (ns : List Int) (k : Int) : Int := mixI (cellAt ns k) k
def drawA (n k : Int) : Int := (n + 104729 * k + 17) * 69621 % 2147483647
def drawn (n k : Int) : Int := (drawA n k * drawA n k + 3 * drawA n k + k) % 2147483629
theorem mixA_b (c k : Int) : 0 ≤ mixA c k ∧ mixA c k < 2147483647 := by unfold mixA; omega
theorem drawA_b (c k : Int) : 0 ≤ drawA c k ∧ drawA c k < 2147483647 := by unfold drawA; omega
theorem mixed_b (ns : List Int) (k : Int) : 0 ≤ mixed ns k ∧ mixed ns k < 2147483629 := by unfold mixed mixI; omega
theorem drawn_b (n k : Int) : 0 ≤ drawn n k ∧ drawn n k < 2147483629 := by unfold drawn; omega
def dInts (ns : List Int) : D := .list (ns.map .int)
def FCell : List D → D → Prop := fun ds d => ∃ (ns : List Int) (k : Int), ds = [dInts ns, .int k] ∧ 0 ≤ k ∧ d = .int (cellAt ns k)
def FMixed : List D → D → Prop := fun ds d => ∃ (ns : List Int) (k : Int), ds = [dInts ns, .int k] ∧ 0 ≤ k ∧ k < 1000000 ∧ d = .int (mixed ns k)
def FDrawn : List D → D → Prop := fun ds d => ∃ (n k : Int), ds = [.int n, .int k] ∧ 0 ≤ k ∧ k < 1000000 ∧ d = .int (drawn n k)
/-! ### the law itself -/
def FLaw : List D → D → Prop := fun ds d => ∃ ns : List Int, ds = [dInts ns] ∧ ns.length ≤ 63 ∧ d = .bool true
theorem law_sp (K : Fg) (H : Hp) (a : Addr) (ns : List Int) (hl : ns.length ≤ 63) (_ : Only H) (hS : SqL K H a (ns.map V.int)) : spD K FLaw [.ref a] H (fun v _ => v = .bl true) fun _ _ _ => False :=
  ⟨H, [dInts ns], .bool true, Same.refl _, .cons (.lst hS dpAll_ints') .nil, ⟨ns, rfl, hl, rfl⟩, fun v Hs' H' _ p => dp_bl p⟩
end AB
namespace AB
open PySem L2
/-! ### things that change, met in expressions -/
/-- e is (a reference to) the thing mo -/
structure PO' (X : Cx) (e : Expr) (ρ : Env) (M : Mem) (mo : MO) : Prop where
  run : ∀ (Hs H : Hp) (σ : L2.St) (Q : VK), RelM X.K Hs H M → EnvR X.K Hs σ ρ → (∀ a o Hs' H', Grow Hs H Hs' H' → H' a = some o → RepO X.K Hs' o mo → Q (.ref a) H') → tWe X e σ H Q
/-- e makes the new thing mo -/
structure PN (X : Cx) (e : Expr) (ρ : Env) (M : Mem) (mo : MO) : Prop where
  run : ∀ (Hs H : Hp) (σ : L2.St) (Q : VK), RelM X.K Hs H M → EnvR X.K Hs σ ρ → (∀ a o Hs' H', Grow Hs H Hs' H' → H a = none → Hs' a = none → H' a = some o → RepO X.K Hs' o mo → Q (.ref a) H') → tWe X e σ H Q
section
variable {X : Cx} {e a b : Expr} {ρ : Env} {M : Mem} {mo : MO} {Φ : Post} {pos : Pos} {d : D}
theorem PN.o (h : PN X e ρ M mo) : PO' X e ρ M mo := ⟨fun Hs H σ Q r q k => h.run Hs H σ Q r q fun a o Hs' H' g _ _ e1 e2 => k a o Hs' H' g e1 e2⟩
/-- a name that holds it -/
theorem pov (i : Nat) {x : Str} {pos : Pos} {l : Addr} (h : ρ[i]? = some (.v (.ref l))) (hm : M l = some mo) (hN : X.N[i]? = some x := by rfl) (hv : Vis X.env.scope x := by first | exact Or.inl rfl | exact Or.inr (Or.inl rfl) | exact Or.inr (Or.inr rfl)) (hd : (x == ("__debug__" : Str)) = false := by decide)
    (hcd : (x == ("__classdict__" : Str)) = false := by decide) : PO' X (.Name x pos) ρ M mo :=
  ⟨fun Hs H σ Q r q k => PE.w (pe_var hN hv hd hcd) (by
    obtain ⟨h1, o, h2, h3⟩ := r.m l mo hm
    exact ⟨_, q.getV h, k l o Hs H (.refl r.i) h2 h3⟩)⟩
/-- x = e, e a new thing -/
theorem ds_setN (i : Nat) {x : Str} {pos' : Pos} (hN : X.N.Nodup) (he : PN X e ρ M mo) (h : ∀ l, M l = none → Φ.nx (ρ.set i (.v (.ref l))) (mup M l mo)) (hi : X.N[i]? = some x := by rfl) (hx : Loc X.env.scope x := by first | exact Or.inl rfl | exact Or.inr rfl) (hs : swapsWith e (some (.Name x pos')) pos.line X.env = pure false := by rfl)
    (hf : X.fn x = true ∨ X.env.scope.names.lookup x = some .local := by first | exact .inl rfl | exact .inr rfl | assumption) : DS X (.Assign [.Name x pos'] e pos) ρ M Φ :=
  ⟨fun Hs H σ E r q a => PS.w (ps_set hN hi hx pe_w hs hf) (he.run Hs H σ _ r q fun p o Hs1 H1 g hp hp1 e1 e2 => by
    have hM : M p = none := by
      cases z : M p with
      | none => rfl
      | some mo => obtain ⟨_, o, h2, _⟩ := r.m p mo z; rw [hp] at h2; cases h2
    have r1 := r.grow g
    refine a.nx Hs1 H1 (mup M p mo) _ _ ⟨r1.i, fun b mo' e => ?_⟩ ⟨g.s, fun b o h _ => g.h b o h, (g.fr (M := M)).n, fun b h1 h2 => ?_, (g.fr (M := M)).t⟩ ((q.mono g.s).set i (s := .v (.ref p)) rfl) (h p hM)
    · by_cases hb : b = p
      · subst hb
        rw [mup_same] at e
        cases e
        exact ⟨hp1, _, e1, e2⟩
      · rw [mup_ne hb] at e
        exact r1.m b mo' e
    · by_cases hb : b = p
      · subst hb; exact hp
      · rw [mup_ne hb] at h2; exact absurd h1 h2)⟩
end
/-! ### dicts with text keys -/
section
variable {α : Type}
def dctF (f : α → D) (kvs : List (Str × α)) : MO := .dct (kvs.map fun p => (Sum.inr p.1, Sl.d (f p.2)))
def lookA (kvs : List (Str × α)) (k : Str) : Option α := (kvs.find? fun p => decide (p.1 = k)).map (·.2)
def putA (kvs : List (Str × α)) (k : Str) (v : α) : List (Str × α) := if (kvs.any fun kv => decide (kv.1 = k)) = true then kvs.map (fun kv => if kv.1 = k then (kv.1, v) else kv) else kvs ++ [(k, v)]
def dropA (kvs : List (Str × α)) (k : Str) : List (Str × α) := kvs.filter fun kv => decide (kv.1 ≠ k)
theorem lookA_nil (k : Str) : lookA ([] : List (Str × α)) k = none := rfl
theorem lookA_pos {p : Str × α} {r : List (Str × α)} {k : Str} (e : p.1 = k) : lookA (p :: r) k = some p.2 := by simp [lookA, List.find?_cons, e]
theorem lookA_neg {p : Str × α} {r : List (Str × α)} {k : Str} (e : ¬ p.1 = k) : lookA (p :: r) k = lookA r k := by simp [lookA, List.find?_cons, e]
abbrev PairD (K : Fg) (Hs : Hp) (f : α → D) (p : Key × V) (q : Str × α) : Prop := p.1 = Sum.inr q.1 ∧ Dq K Hs p.2 (f q.2)
theorem pairs_back {K : Fg} {Hs : Hp} {f : α → D} : ∀ {kvs : List (Str × α)} {vs : List (Key × V)}, Paired (fun (p : Key × V) (q : Key × Sl) => p.1 = q.1 ∧ SlV K Hs p.2 q.2) vs (kvs.map fun p => (Sum.inr p.1, Sl.d (f p.2))) → Paired (PairD K Hs f) vs kvs
  | [], _, h => by cases h; exact .nil
  | q :: kvs, _, h => by
    rw [List.map_cons] at h
    cases h with
    | cons x y => exact .cons ⟨x.1, x.2.dp⟩ (pairs_back y)
theorem rep_dct {K : Fg} {Hs : Hp} {o : HO} {f : α → D} {kvs : List (Str × α)} (h : RepO K Hs o (dctF f kvs)) : ∃ vs, o = .dK vs ∧ Paired (PairD K Hs f) vs kvs := by
  cases o with
  | dK vs => exact ⟨vs, rfl, pairs_back h⟩
  | _ => exact h.elim
theorem dct_rep {K : Fg} {Hs : Hp} {f : α → D} {vs : List (Key × V)} {kvs : List (Str × α)} (h : Paired (PairD K Hs f) vs kvs) : RepO K Hs (.dK vs) (dctF f kvs) := by
  show Paired (fun (p : Key × V) (q : Key × Sl) => p.1 = q.1 ∧ SlV K Hs p.2 q.2) vs (kvs.map fun p => (Sum.inr p.1, Sl.d (f p.2)))
  induction kvs generalizing vs with
  | nil => cases h; exact .nil
  | cons q kvs ih =>
    cases h with
    | cons x y => rw [List.map_cons]; exact .cons ⟨x.1, slv_d x.2⟩ (ih y)
theorem look_rel {K : Fg} {Hs : Hp} {f : α → D} {vs : List (Key × V)} {kvs : List (Str × α)} (h : Paired (PairD K Hs f) vs kvs) (k : Str) :
    (∃ v x, valV vs (Sum.inr k) = some v ∧ lookA kvs k = some x ∧ Dq K Hs v (f x)) ∨ (valV vs (Sum.inr k) = none ∧ lookA kvs k = none) := by
  induction kvs generalizing vs with
  | nil => cases h; exact .inr ⟨rfl, rfl⟩
  | cons q kvs ih =>
    cases h with
    | cons x y =>
      by_cases e : q.1 = k
      · exact .inl ⟨_, _, valV_pos (x.1.trans (by rw [e])), lookA_pos e, x.2⟩
      · rw [lookA_neg e, valV_neg (fun z => e (Sum.inr.inj (x.1.symm.trans z)))]
        exact ih y
theorem any_rel {K : Fg} {Hs : Hp} {f : α → D} {vs : List (Key × V)} {kvs : List (Str × α)} (h : Paired (PairD K Hs f) vs kvs) (k : Str) : (vs.any fun kv => decide (kv.1 = (Sum.inr k : Key))) = kvs.any fun kv => decide (kv.1 = k) := by
  induction kvs generalizing vs with
  | nil => cases h; rfl
  | cons q kvs ih =>
    cases h with
    | cons x y =>
      rw [List.any_cons, List.any_cons, ih y, x.1]
      congr 1
      exact key_rr q.1 k
theorem put_map {K : Fg} {Hs : Hp} {f : α → D} (k : Str) {v : V} {x : α} (p : Dq K Hs v (f x)) : ∀ {kvs : List (Str × α)} {vs : List (Key × V)}, Paired (PairD K Hs f) vs kvs → Paired (PairD K Hs f) (vs.map fun kv => if kv.1 = Sum.inr k then (kv.1, v) else kv) (kvs.map fun kv => if kv.1 = k then (kv.1, x) else kv)
  | [], _, h => by cases h; exact .nil
  | q :: kvs, _, h => by
    cases h with
    | cons a y =>
      rw [List.map_cons, List.map_cons]
      refine .cons ?_ (put_map k p y)
      by_cases e : q.1 = k
      · rw [if_pos (a.1.trans (by rw [e])), if_pos e]; exact ⟨a.1, p⟩
      · rw [if_neg (fun z => e (Sum.inr.inj (a.1.symm.trans z))), if_neg e]; exact a
theorem put_rel {K : Fg} {Hs : Hp} {f : α → D} {vs : List (Key × V)} {kvs : List (Str × α)} (h : Paired (PairD K Hs f) vs kvs) (k : Str) {v : V} {x : α} (p : Dq K Hs v (f x)) : Paired (PairD K Hs f) (putK vs (Sum.inr k) v) (putA kvs k x) := by
  unfold putK putA
  rw [any_rel h k]
  split
  · exact put_map k p h
  · exact paired_app h (.cons ⟨rfl, p⟩ .nil)
theorem drop_rel {K : Fg} {Hs : Hp} {f : α → D} {vs : List (Key × V)} {kvs : List (Str × α)} (h : Paired (PairD K Hs f) vs kvs) (k : Str) : Paired (PairD K Hs f) (dropK vs (Sum.inr k)) (dropA kvs k) := by
  unfold dropK dropA
  induction kvs generalizing vs with
  | nil => cases h; exact .nil
  | cons q kvs ih =>
    cases h with
    | @cons p _ _ _ a y =>
      by_cases e : q.1 = k
      · rw [List.filter_cons, List.filter_cons, if_neg (by rw [a.1, e]; simp), if_neg (by simp [e])]
        exact ih y
      · rw [List.filter_cons, List.filter_cons, if_pos (decide_eq_true (show p.1 ≠ Sum.inr k from fun z => e (Sum.inr.inj (a.1.symm.trans z)))), if_pos (decide_eq_true (show q.1 ≠ k from e))]
        exact .cons a (ih y)
variable {X : Cx} {e a b c : Expr} {ρ : Env} {M : Mem} {pos : Pos} {d : D} {f : α → D} {kvs : List (Str × α)}
def getA (f : α → D) (kvs : List (Str × α)) (k : Str) (d : D) : D := match lookA kvs k with | some x => f x | none => d
/-- o.get(k, d) -/
theorem pd_get2 {apos : Pos} {k : Str} (hu : X.A.units + 1 < cLine) (ho : PO' X a ρ M (dctF f kvs)) (hk : PD X b ρ M (.str k)) (hd : PD X c ρ M d) (m : M2 X a "get" apos b c pos) : PD X (.Call (.Attribute a "get" apos) [b, c] [] pos) ρ M (getA f kvs k d) :=
  pd_of (pe_dget2 hu pe_w pe_w pe_w m) fun Hs H σ Q i q kk => ho.run Hs H σ _ i q fun l o Hs1 H1 g1 e1 e2 => by
    obtain ⟨vs, rfl, rel⟩ := rep_dct e2
    refine ⟨l, rfl, .inl ⟨vs, .inl e1⟩, ?_⟩
    refine hk.run Hs1 H1 σ _ (i.grow g1) (q.mono g1.s) fun v Hs2 H2 g2 p2 => hd.run Hs2 H2 σ _ (i.grow (g1.trans g2)) (q.mono (g1.trans g2).s) fun u Hs3 H3 g3 p3 => ?_
    have hv := dp_str p2
    subst hv
    have e3 : H3 l = some (.dK vs) := g3.h _ _ (g2.h _ _ e1)
    have gg := (g1.trans g2).trans g3
    rcases look_rel rel k with ⟨v, x, y1, y2, y3⟩ | ⟨y1, y2⟩
    · refine ⟨some v, DGet.k (k := Sum.inr k) e3 |> (fun z => by rw [y1] at z; exact z), ?_⟩
      refine kk _ Hs3 H3 gg ?_
      unfold getA
      rw [y2]
      exact dp_mono (g2.trans g3).s y3
    · refine ⟨none, DGet.k (k := Sum.inr k) e3 |> (fun z => by rw [y1] at z; exact z), ?_⟩
      refine kk _ Hs3 H3 gg ?_
      unfold getA
      rw [y2]
      exact p3
/-- a written dict of texts and data -/
inductive PPD (X : Cx) (ρ : Env) (M : Mem) (f : α → D) : List (Option Expr) → List Expr → List (Str × α) → Prop
  | nil : PPD X ρ M f [] [] []
  | cons {k v : Expr} {ks : List (Option Expr)} {vs : List Expr} {s : Str} {x : α} {kvs : List (Str × α)} : PD X k ρ M (.str s) → PD X v ρ M (f x) → PPD X ρ M f ks vs kvs → PPD X ρ M f (some k :: ks) (v :: vs) ((s, x) :: kvs)
def mergeA (kvs : List (Str × α)) : List (Str × α) := kvs.foldl (fun acc kv => putA acc kv.1 kv.2) []
theorem PPD.trs {keys : List (Option Expr)} {values : List Expr} {kvs : List (Str × α)} (h : PPD X ρ M f keys values kvs) : ∃ trs, PPs X pos keys values trs ∧ keys.all (·.isSome) = true ∧ keys.length = values.length ∧ keys.length = kvs.length ∧
    ∀ (Hs H : Hp) (σ : L2.St) (Q : List (V × V) → Hp → Prop), RelM X.K Hs H M → EnvR X.K Hs σ ρ → (∀ ps Hs' H', Grow Hs H Hs' H' → Paired (fun (p : V × V) (q : Str × α) => p.1 = .str q.1 ∧ Dq X.K Hs' p.2 (f q.2)) ps kvs → Q ps H') → tPairs trs σ H Q := by
  induction h with
  | nil => exact ⟨[], pps_nil, rfl, rfl, rfl, fun Hs H σ Q r q k => k [] Hs H (.refl r.i) .nil⟩
  | cons hk hv _ ih =>
    obtain ⟨trs, h1, h2, h3, h4, h5⟩ := ih
    refine ⟨_, pps_cons pe_w pe_w h1, by simpa using h2, by simp [h3], by simp [h4], fun Hs H σ Q r q k => ?_⟩
    refine hk.run Hs H σ _ r q fun v Hs1 H1 g1 p1 => hv.run Hs1 H1 σ _ (r.grow g1) (q.mono g1.s) fun u Hs2 H2 g2 p2 => h5 Hs2 H2 σ _ (r.grow (g1.trans g2)) (q.mono (g1.trans g2).s) fun ps Hs3 H3 g3 p3 => k _ Hs3 H3 ((g1.trans g2).trans g3) (.cons ⟨dp_str p1, dp_mono g3.s p2⟩ p3)
theorem keyed {K : Fg} {Hs : Hp} {ps : List (V × V)} {kvs : List (Str × α)} (h : Paired (fun (p : V × V) (q : Str × α) => p.1 = .str q.1 ∧ Dq K Hs p.2 (f q.2)) ps kvs) : ∃ vs : List (Key × V), ps = vs.map (fun kv => (kV kv.1, kv.2)) ∧ Paired (PairD K Hs f) vs kvs := by
  induction kvs generalizing ps with
  | nil => cases h; exact ⟨[], rfl, .nil⟩
  | cons q kvs ih =>
    cases h with
    | @cons p _ _ _ a y =>
      obtain ⟨vs, e1, e2⟩ := ih y
      refine ⟨(Sum.inr q.1, p.2) :: vs, ?_, .cons ⟨rfl, a.2⟩ e2⟩
      rw [e1, List.map_cons]
      congr 1
      exact Prod.ext a.1 rfl
theorem merge_rel {K : Fg} {Hs : Hp} {vs : List (Key × V)} {kvs : List (Str × α)} (h : Paired (PairD K Hs f) vs kvs) : ∀ {ws : List (Key × V)} {ls : List (Str × α)}, Paired (PairD K Hs f) ws ls → Paired (PairD K Hs f) (mergeK ws vs) (kvs.foldl (fun acc kv => putA acc kv.1 kv.2) ls) := by
  induction kvs generalizing vs with
  | nil => cases h; exact fun r => r
  | cons q kvs ih =>
    cases h with
    | @cons p _ _ _ a y =>
      intro ws ls r
      show Paired (PairD K Hs f) (mergeK (putK ws p.1 p.2) _) (List.foldl _ (putA ls q.1 q.2) kvs)
      rw [a.1]
      exact ih y (put_rel r q.1 a.2)
theorem pn_disp {keys : List (Option Expr)} {values : List Expr} (h : PPD X ρ M f keys values kvs) (h0 : keys ≠ []) (h15 : keys.length ≤ 15) : PN X (.Dict keys values pos) ρ M (dctF f (mergeA kvs)) := by
  obtain ⟨trs, h1, h2, h3, h4, h5⟩ := h.trs (pos := pos)
  refine ⟨fun Hs H σ Q r q k => PE.w (pe_disp h1 h2 h3 h0 h15) fun p hp => ?_⟩
  have gn : Grow Hs H Hs (upd H p (.dK [])) := .newH r.i hp
  refine h5 Hs _ σ _ (r.grow gn) q fun ps Hs1 H1 g1 rel => ?_
  obtain ⟨vs, e1, e2⟩ := keyed rel
  have n0 : Hs p = none := r.i.free hp
  have n1 : Hs1 p = none := g1.n p n0 (by rw [upd_same]; intro z; cases z)
  refine ⟨g1.h _ _ upd_same, vs, e1, by rw [Paired.length e2, ← h4]; exact h15, ?_⟩
  have gg := gn.trans g1
  refine k p _ Hs1 _ ⟨fun b o e => ?_, gg.s, fun b o e => ?_, gg.n⟩ hp n1 upd_same (dct_rep (merge_rel e2 .nil))
  · rw [upd_ne (ne_of_none e hp)]; exact gg.h b o e
  · rw [upd_ne (ne_of_none e n1)]; exact g1.i b o e
end
end AB
namespace AB
open PySem L2
/-! ### t[::-1] -/
section
variable {prog : Program} {w : World} {A : Around} {E : Value → Shared → Prop} {s : Shared}
theorem adjust_rev (n : Nat) : Builtin.Slice.sliceAdjust none none (-1) (n : Int) = ((n : Int) - 1, -1) := by
  unfold Builtin.Slice.sliceAdjust
  rfl
theorem places_rev (n : Nat) : Builtin.Slice.slicePlaces ((n : Int) - 1) (-1) (-1) = n := by
  unfold Builtin.Slice.slicePlaces
  rw [if_neg (by decide), show -(-1 : Int) = 1 from rfl, Int.ediv_one]
  split <;> omega
theorem fm_congr {α β : Type} {f g : α → Option β} : ∀ (l : List α), (∀ m ∈ l, f m = g m) → l.filterMap f = l.filterMap g
  | [], _ => rfl
  | a :: l, h => by rw [List.filterMap_cons, List.filterMap_cons, h a List.mem_cons_self, fm_congr l fun m hm => h m (List.mem_cons_of_mem _ hm)]
theorem pick_rev (xs : Array Value) : ((List.range xs.size).filterMap fun (m : Nat) => xs[((xs.size : Int) - 1 + (m : Int) * (-1)).toNat]?).toArray = xs.toList.reverse.toArray := by
  congr 1
  have e : (List.range xs.size).filterMap (fun (m : Nat) => xs[((xs.size : Int) - 1 + (m : Int) * (-1)).toNat]?) = (List.range xs.size).filterMap (fun m => xs.toList.reverse[m]?) := by
    refine fm_congr _ fun m hm => ?_
    rw [List.mem_range] at hm
    have e1 : ((xs.size : Int) - 1 + (m : Int) * (-1)).toNat = xs.size - 1 - m := by omega
    rw [e1, List.getElem?_reverse (by simpa using hm), Array.length_toList, Array.getElem?_toList]
  rw [e]
  have : ∀ l : List Value, (List.range l.length).filterMap (fun m => l[m]?) = l := by
    intro l
    induction l with
    | nil => rfl
    | cons a l ih =>
      rw [List.length_cons, List.range_succ_eq_map, List.filterMap_cons, List.filterMap_map]
      show a :: List.filterMap (fun m => (a :: l)[m + 1]?) (List.range l.length) = a :: l
      congr 1
  have h := this xs.toList.reverse
  rw [List.length_reverse, Array.length_toList] at h
  exact h
theorem getItem_tuple_rev {t sl : Addr} {items : Array Value} {tk : Tok} {Q : Value → Shared → Prop} (ht : PyProof.Rows.IsTup s.heap t items) (hs : s.heap.IsSliceOf sl .none .none (.int (-1) tk))
    (h : Q (.ref s.heap.objs.size) { s with heap := s.heap.push { cls := .type "tuple", data := .seq items.toList.reverse.toArray } }) (hsz : items.size ≤ sizeLine) : wpAny (model prog w) A (getItem (.ref t) (.ref sl)) Q E s := by
  have htake : sizeOk (.seq items.toList.reverse.toArray) := by
    show items.toList.reverse.toArray.size ≤ sizeLine
    rw [List.size_toArray, List.length_reverse, Array.length_toList]
    exact hsz
  obtain ⟨os, hos, hcs, hds⟩ := id hs
  have hTs : s.TypeIs (.ref sl) "slice" := ⟨os, hos, hcs⟩
  unfold getItem
  try with_reducible refine wpAny_holding ?_
  first | refine wpAny_bind (wpAny_pure ?_) | skip
  refine wpAny_bind (wpAny_sequenceKey ht.typeIs (by decide) ?_)
  refine wpAny_bind (wpAny_callSpecial?_slot (name := Str.ofString "__getitem__") ht.typeIs PyProof.Rows.slot_tuple_getitem
    (wpAny_call_entry PyProof.Rows.slot_tuple_getitem ht.typeIs PyProof.Rows.entry_tuple_getitem ?_ (PyProof.Rows.args_tuple_getitem _ _)))
  show wpAny _ _ (Builtin.Tuple.tupleItemsOf (.ref t) >>= _) _ _ s
  refine wpAny_bind (PyProof.Rows.tupleItemsOf_ ht ?_)
  refine wpAny_bind (wpAny_typeOf hTs ?_)
  rw [if_pos (by decide)]
  refine wpAny_bind ?_
  unfold Builtin.Slice.sliceApplied Builtin.Slice.sliceFields
  refine wpAny_bind (wpAny_bind (wpAny_field hos hds (x := .none) rfl (wpAny_bind (wpAny_field hos hds (x := .none) rfl (wpAny_bind (wpAny_field hos hds (x := .int (-1) tk) rfl (wpAny_pure ?_)))))))
  refine wpAny_bind (PyProof.Rows.slicePart_int ?_)
  show wpAny _ _ (if ((-1 : Int) == 0) = true then _ else _) _ _ s
  rw [if_neg (by decide)]
  refine wpAny_bind (PyProof.Rows.slicePart_none (wpAny_bind (PyProof.Rows.slicePart_none (wpAny_bind (wpAny_pure ?_)))))
  show wpAny _ _ (match Builtin.Slice.sliceAdjust none none (-1) (items.size : Int) with | (lo, hi) => pure (lo, (-1 : Int), Builtin.Slice.slicePlaces lo hi (-1))) _ _ s
  rw [adjust_rev]
  show wpAny _ _ (pure ((items.size : Int) - 1, (-1 : Int), Builtin.Slice.slicePlaces ((items.size : Int) - 1) (-1) (-1))) _ _ s
  rw [places_rev]
  refine wpAny_pure ?_
  show wpAny _ _ (if ((((items.size : Int) - 1) == 0) && ((-1 : Int) == 1) && (items.size == items.size)) = true then _ else _) _ _ s
  rw [if_neg (by simp), pick_rev]
  first
    | exact wpAny_bind (m := Builtin.Tuple.tupleExact _) (wpAny_newObj_type (wpAny_pure ⟨_, rfl, wpAny_pure h⟩) htake)
    | exact wpAny_bind (m := Builtin.Tuple.tupleExact _) (wpAny_newObj_type (wpAny_bind (wpAny_pure (wpAny_pure ⟨_, rfl, wpAny_pure h⟩))) htake)
    | exact wpAny_bind (wpAny_bind (m := Builtin.Tuple.tupleExact _) (wpAny_newObj_type (wpAny_pure (wpAny_pure ⟨_, rfl, wpAny_pure h⟩)) htake))
    | exact wpAny_bind (wpAny_bind (m := Builtin.Tuple.tupleExact _) (wpAny_newObj_type (wpAny_pure ⟨_, rfl, wpAny_pure h⟩) htake))
end
section
variable {X : Cx} {e a b : Expr} {ρ : Env} {M : Mem} {pos : Pos} {d : D} {ds : List D}
def tRevT (K : Fg) (te : TE) : TE := fun σ H Q => te σ H fun x H1 => ∃ a xs, x = .ref a ∧ SqT K H1 a xs ∧ ∀ p o, H1 p = none → o.dict = none → Q (.ref p) (upd H1 p (.frz o (.tup xs.reverse)))
theorem pe_revT {te : TE} {k : Nat} {p1 p2 p3 pos : Pos} (he : PE X e te) : PE X (.Subscript e (.Slice none none (some (.UnaryOp .USub (.Constant (.int 1) k p1) p2)) p3) pos) (tRevT X.K te) := by
  refine ⟨fun pins s σ H Q I h => ?_⟩
  refine PyProof.Rows.Subscript_ (thn (he.run pins s σ H _ I h) fun v s1 ⟨x, H1, I1, r1, q1⟩ => ?_)
  obtain ⟨a, xs, ex, hx, q⟩ := q1
  subst ex
  cases r1
  have hst : PO X (some (.UnaryOp .USub (.Constant (.int 1) k p1) p2)) (tPart (tUn (rU fun i => .int (-i)) (tC (.int 1)))) := po_some (pe_un un_neg pe_int)
  refine wpAny_Slice (thn (po_none.run pins s1 σ H1 (fun o H2 => o = none ∧ H2 = H1) I1 ⟨rfl, rfl⟩) fun vl s2 ⟨l, H2, I2, pl, el, e2⟩ => ?_)
  subst el e2
  refine thn (po_none.run pins s2 σ H2 (fun o H3 => o = none ∧ H3 = H2) I2 ⟨rfl, rfl⟩) fun vu s3 ⟨u, H3, I3, pu, eu, e3⟩ => ?_
  subst eu e3
  refine thn (hst.run pins s3 σ H3 (fun o H4 => o = some (-1) ∧ H4 = H3) I3 ⟨1, rfl, -1, rfl, rfl, rfl⟩) fun vs s4 ⟨o, H4, I4, ps, eo, e4⟩ => ?_
  subst eo e4
  have I5 : Inv X pins σ H4 { s4 with heap := s4.heap.push { cls := .type "slice", data := .fields #[vl, vu, vs] } } := I4.kept (t' := s4.toks) fun b ob q => Heap.get?_push_of_some _ q
  obtain ⟨its, r, ht, hz⟩ := I5.tuple hx
  have hlen := r.length
  cases pl
  cases pu
  cases ps
  show wpAny (model X.prog X.w) X.A (PyProof.Rows.subscriptTail e (.Slice none none (some (.UnaryOp .USub (.Constant (.int 1) k p1) p2)) p3) (.ref a) (.ref s4.heap.objs.size)) (EP X pins σ Q) X.xe _
  refine PyProof.Rows.tail_any (ops := [.ref a, .ref s4.heap.objs.size]) ht.typeIs (PyProof.Rows.slot_tuple_getitem.lookup) ?_ (by with_unfolding_all rfl)
  refine getItem_tuple_rev ht (Heap.IsSliceOf.new _ _ _ _) ?_ (by rw [List.size_toArray]; omega)
  exact laidT (s := s4) (h' := s4.heap.push { cls := .type "slice", data := .fields #[_, _, _] }) I5 r.reverse (by rw [List.length_reverse]; exact hz) q
theorem pd_revT {k : Nat} {p1 p2 p3 : Pos} (ha : PD X e ρ M (.tuple ds)) : PD X (.Subscript e (.Slice none none (some (.UnaryOp .USub (.Constant (.int 1) k p1) p2)) p3) pos) ρ M (.tuple ds.reverse) :=
  pd_of (pe_revT pe_w) fun Hs H σ Q i q kk => ha.run Hs H σ _ i q fun v Hs1 H1 g1 p1 => by
    obtain ⟨a, vs, rfl, h1, h2⟩ := dp_tup p1
    exact ⟨a, vs, rfl, (h1.mono g1.i).sq, fun p o hp ho => kk _ _ _ (g1.trans (.new g1.i hp)) (.tup (.of upd_same ho) (dpAll_mono (same_upd (g1.i.free hp)) h2.rev))⟩
theorem pd_revL {k : Nat} {p1 p2 p3 : Pos} (ha : PD X e ρ M (.list ds)) : PD X (.Subscript e (.Slice none none (some (.UnaryOp .USub (.Constant (.int 1) k p1) p2)) p3) pos) ρ M (.list ds.reverse) :=
  pd_of (pe_revL pe_w) fun Hs H σ Q i q kk => ha.run Hs H σ _ i q fun v Hs1 H1 g1 p1 => by
    obtain ⟨a, vs, rfl, h1, h2⟩ := dp_lst p1
    exact ⟨a, vs, rfl, g1.i.seq h1, fun p hp => kk _ _ _ (g1.trans (.new g1.i hp)) (.lst (.of upd_same) (dpAll_mono (same_upd (g1.i.free hp)) h2.rev))⟩
/-- t * 2, t not empty -/
def rTwice (K : Fg) : R2 := fun x y H Q => ∃ l xs, x = .ref l ∧ y = .int 2 ∧ SqT K H l xs ∧ xs ≠ [] ∧ xs.length ≤ 1000 ∧ ∀ p o, H p = none → o.dict = none → Q (.ref p) (upd H p (.frz o (.tup (xs ++ xs))))
theorem op_twice : OpR X (binaryOp .Mult) (rTwice X.K) := by
  intro pins s σ H x y v u Q I rx ry h
  obtain ⟨l, xs, rfl, rfl, hT, hne, hz, q⟩ := h
  cases rx
  obtain ⟨t, rfl⟩ := ry
  obtain ⟨its, r, ⟨⟨cls, dd, data, sl⟩, ho, hc, n, hd⟩, hs⟩ := I.tuple hT
  simp only at hc hd
  subst hc hd
  have hle : its.length = xs.length := r.length.symm
  have hi : its.toArray.isEmpty = false := by
    cases its with
    | nil => exact absurd (List.eq_nil_of_length_eq_zero hle.symm) hne
    | cons a b => rfl
  have hsz0 : its.toArray.size = xs.length := by rw [List.size_toArray, hle]
  have e2 : (List.replicate (2 : Int).toNat its).flatten = its ++ its := by
    show its ++ (its ++ []) = _
    rw [List.append_nil]
  have c1 : (its.toArray.isEmpty || (2 : Int) == 1) = false := by rw [hi]; rfl
  have c2 : (decide ((2 : Int) ≤ 0) || its.toArray.isEmpty) = false := by rw [hi]; rfl
  have c3 : ¬ ((its.toArray.size : Nat) : Int) * 2 > (2 ^ 63 - 1) / 8 := by rw [hsz0]; omega
  have c4 : Builtin.Tuple.tupleTooMany (((its.toArray.size : Nat) : Int) * 2) = false := by
    unfold Builtin.Tuple.tupleTooMany
    rw [hsz0, show sizeLine = 16777216 from rfl]
    exact decide_eq_false (by omega)
  have flen : (its ++ its).toArray.size ≤ sizeLine := by
    rw [List.size_toArray, List.length_append, hle, show sizeLine = 16777216 from rfl]; omega
  refine wpAny_binaryOp_repeat_ref (T := "tuple") (U := "int") (by decide) ⟨_, ho, rfl⟩ (fun s' => typeIs_int s' 2 t) noFill_tuple_mul F.fills_int_mul F.slot_int_rmul repeat_tuple F.slot_int_index.lookup
    (call_meets F.slot_int_rmul (typeIs_int s 2 t) F.entry_int_rmul (F.args_int_rmul_2 _ _) (int_rmul_tuple 2 t l its.toArray n dd sl)
      ⟨ho, rfl, ⟨_, ho, rfl⟩, call_meets F.slot_tuple_mul ⟨_, ho, rfl⟩ F.entry_tuple_mul (F.args_tuple_mul_2 _ _) (tuple_mulW l its.toArray n dd sl 2 t rfl c1 c2 c3 c4 (by rw [size_rep, e2]; exact flen)) ⟨ho, ?_⟩⟩)
  rw [size_rep, e2]
  exact laidT (s := s) (h' := s.heap) I (r.append r) (by rw [List.length_append, show sizeLine = 16777216 from rfl]; omega) q
theorem pd_twice (ha : PD X a ρ M (.tuple ds)) (hb : PD X b ρ M (.int 2)) (hne : ds ≠ []) (hz : ds.length ≤ 1000) : PD X (.BinOp a .Mult b pos) ρ M (.tuple (ds ++ ds)) := pd_op op_twice (fun Hs H v u Q s p q k => by
  obtain ⟨a, vs, rfl, ha, pa⟩ := dp_tup p
  refine ⟨a, vs, rfl, dp_int q, (ha.mono s).sq, fun z => ?_, by rw [pa.len]; exact hz, fun p o hp ho => k _ _ _ (.new s hp) (.tup (.of upd_same ho) (dpAll_mono (same_upd (s.free hp)) (pa.app pa)))⟩
  subst z
  cases pa
  exact hne rfl) ha hb
end
end AB
namespace AB
open PySem L2
/-! ### changes, books: what they are, and as data -/
inductive Chg where
  | put (k : Str) (w : Int)
  | add (k : Str) (w : Int)
  | keep (k : Str) (w : Int)
  | drop (k : Str)
  | move (a b : Str)
  deriving DecidableEq
abbrev Book := List (Str × Int)
def dChg : Chg → D
  | .put k w => .tuple [.str "put", .str k, .int w]
  | .add k w => .tuple [.str "add", .str k, .int w]
  | .keep k w => .tuple [.str "keep", .str k, .int w]
  | .drop k => .tuple [.str "drop", .str k]
  | .move a b => .tuple [.str "move", .str a, .str b]
def dRow (r : List Chg) : D := .tuple (r.map dChg)
def dPair (p : Str × Int) : D := .tuple [.str p.1, .int p.2]
def dBook (b : Book) : D := .tuple (b.map dPair)
/-! ### the law's draws of them -/
def keyN (i : Int) : Str := ⟨#[97 + i.toNat]⟩
def wsel (i : Int) : Int := if i = 1 then 3 else if i = 3 then 2 else 1000
def lawChange (n many : Int) : Chg :=
  if n % 8 = 0 then .move (keyN (n / 8 % many)) (keyN (n / 64 % many))
  else if n % 8 = 1 then .drop (keyN (n / 8 % many))
  else if n % 8 % 3 = 0 then .put (keyN (n / 8 % many)) (n / 512 % wsel (n / 16 % 4))
  else if n % 8 % 3 = 1 then .add (keyN (n / 8 % many)) (n / 512 % wsel (n / 16 % 4))
  else .keep (keyN (n / 8 % many)) (n / 512 % wsel (n / 16 % 4))
def lawRow (n most : Int) : List Chg := (List.range (n / 4 % (most + 1)).toNat).map fun k => lawChange (drawn n (k : Nat) / 4) (1 + n % 4)
def bookAt (n : Int) (k : Nat) : Option (Str × Int) :=
  if drawn n (60 + (k : Nat)) / 4 % 3 > 0 then some (keyN (k : Nat), drawn n (60 + (k : Nat)) / 4 / 4 % (if drawn n (60 + (k : Nat)) / 4 / 16 % 2 = 0 then 1000 else 3)) else none
def lawBook (n : Int) : Book := (List.range 4).filterMap (bookAt n)
def FChange : List D → D → Prop := fun ds d => ∃ (n many : Int), ds = [.int n, .int many] ∧ 0 ≤ n ∧ 1 ≤ many ∧ many ≤ 4 ∧ d = dChg (lawChange n many)
def FRow : List D → D → Prop := fun ds d => ∃ (n most : Int), ds = [.int n, .int most] ∧ 0 ≤ n ∧ 0 ≤ most ∧ most ≤ 100 ∧ d = dRow (lawRow n most)
def FBook : List D → D → Prop := fun ds d => ∃ (n : Int), ds = [.int n] ∧ d = dBook (lawBook n)
/-! ### places in written texts and tuples -/
theorem int4 {i : Int} (h0 : 0 ≤ i) (h1 : i < 4) : i = 0 ∨ i = 1 ∨ i = 2 ∨ i = 3 := by omega
theorem abcd_at {i : Int} (h0 : 0 ≤ i) (h1 : i < 4) : atI (("abcd" : Str).cps.toList) i = some (97 + i.toNat) := by
  rcases int4 h0 h1 with rfl | rfl | rfl | rfl <;> decide +kernel
theorem wsel_at {i : Int} (h0 : 0 ≤ i) (h1 : i < 4) : atI [(.int 1000 : D), .int 3, .int 1000, .int 2] i = some (.int (wsel i)) := by
  rcases int4 h0 h1 with rfl | rfl | rfl | rfl <;> rfl
theorem wsel_pos (i : Int) : 0 < wsel i := by unfold wsel; split <;> (try split) <;> decide
theorem wsel_le (i : Int) : wsel i ≤ 1000 := by unfold wsel; split <;> (try split) <;> decide
theorem atI_0 {α : Type} (x : α) (r : List α) : atI (x :: r) 0 = some x := by
  unfold atI ixN
  rw [if_pos (by decide), if_pos (by simp only [List.length_cons]; omega)]; rfl
theorem atI_1 {α : Type} (x y : α) (r : List α) : atI (x :: y :: r) 1 = some y := by
  unfold atI ixN
  rw [if_pos (by decide), if_pos (by simp only [List.length_cons]; omega)]; rfl
theorem atI_2 {α : Type} (x y z : α) (r : List α) : atI (x :: y :: z :: r) 2 = some z := by
  unfold atI ixN
  rw [if_pos (by decide), if_pos (by simp only [List.length_cons]; omega)]; rfl
theorem abcd_len : (("abcd" : Str)).length ≤ sizeLine := by decide +kernel
theorem abcd_signs : signsD "abcd" = [.str (keyN 0), .str (keyN 1), .str (keyN 2), .str (keyN 3)] := by
  unfold signsD
  rw [show ("abcd" : Str).cps.toList = [97, 98, 99, 100] by decide +kernel]
  rfl
end AB
namespace AB
open PySem L2
/-! ### module constants -/
def GS (mg : Str → Option Value) (x v : Str) : Prop := ∃ t, mg x = some (.str v t)
def GI (mg : Str → Option Value) (x : Str) (i : Int) : Prop := ∃ t, mg x = some (.int i t)
def GT (K : Fg) (mg : Str → Option Value) (x : Str) (ds : List D) : Prop := ∃ a, mg x = some (.ref a) ∧ ∀ H, Dq K H (.ref a) (.tuple ds)
section
variable {X : Cx} {ρ : Env} {M : Mem} {pos : Pos}
theorem pd_gs {x v : Str} (g : GS X.mg x v) (hg : Gl X x) (hd : (x == ("__debug__" : Str)) = false := by decide) : PD X (.Name x pos) ρ M (.str v) := by
  obtain ⟨t, h⟩ := g
  exact pd_glob (v := .str v) hg h ⟨t, rfl⟩ (fun _ => .str _) hd
theorem pd_gi {x : Str} {i : Int} (g : GI X.mg x i) (hg : Gl X x) (hd : (x == ("__debug__" : Str)) = false := by decide) : PD X (.Name x pos) ρ M (.int i) := by
  obtain ⟨t, h⟩ := g
  exact pd_glob (v := .int i) hg h ⟨t, rfl⟩ (fun _ => .int _) hd
theorem pd_gt {x : Str} {ds : List D} (g : GT X.K X.mg x ds) (hg : Gl X x) (hd : (x == ("__debug__" : Str)) = false := by decide) : PD X (.Name x pos) ρ M (.tuple ds) := by
  obtain ⟨a, h, q⟩ := g
  exact pd_glob (v := .ref a) hg h rfl q hd
/-- one sign in a text -/
theorem pd_inSign {a b : Expr} {c : Nat} {z : Str} (ha : PD X a ρ M (.str ⟨#[c]⟩)) (hb : PD X b ρ M (.str z)) (hm : behindInMarks .In b = false := by rfl) : PD X (.Compare a [.In] [b] pos) ρ M (.bool (decide (c ∈ z.cps.toList))) :=
  pd_cmp op_in_sign (fun Hs H v u Q s p q k => ⟨c, z, dp_str p, dp_str q, k _ Hs H (.refl s) (.bl _)⟩) ha hb hm
end
/-! ### kinds -/
def isStrD : D → Bool | .str _ => true | _ => false
def isIntD : D → Bool | .int _ => true | .bool _ => true | _ => false
def isBoolD : D → Bool | .bool _ => true | _ => false
def isTupD : D → Bool | .tuple _ => true | _ => false
def isLstD : D → Bool | .list _ => true | _ => false
theorem kit_str (d : D) : kitB (tyN d) "str" = some (isStrD d) := by
  cases d
  · show kitB "NoneType" "str" = some false; decide +kernel
  · show kitB "bool" "str" = some false; decide +kernel
  · show kitB "int" "str" = some false; decide +kernel
  · show kitB "str" "str" = some true; decide +kernel
  · show kitB "list" "str" = some false; decide +kernel
  · show kitB "tuple" "str" = some false; decide +kernel
  · show kitB "dict" "str" = some false; decide +kernel
theorem kit_int (d : D) : kitB (tyN d) "int" = some (isIntD d) := by
  cases d
  · show kitB "NoneType" "int" = some false; decide +kernel
  · show kitB "bool" "int" = some true; decide +kernel
  · show kitB "int" "int" = some true; decide +kernel
  · show kitB "str" "int" = some false; decide +kernel
  · show kitB "list" "int" = some false; decide +kernel
  · show kitB "tuple" "int" = some false; decide +kernel
  · show kitB "dict" "int" = some false; decide +kernel
theorem kit_bool (d : D) : kitB (tyN d) "bool" = some (isBoolD d) := by
  cases d
  · show kitB "NoneType" "bool" = some false; decide +kernel
  · show kitB "bool" "bool" = some true; decide +kernel
  · show kitB "int" "bool" = some false; decide +kernel
  · show kitB "str" "bool" = some false; decide +kernel
  · show kitB "list" "bool" = some false; decide +kernel
  · show kitB "tuple" "bool" = some false; decide +kernel
  · show kitB "dict" "bool" = some false; decide +kernel
theorem kit_tup (d : D) : kitB (tyN d) "tuple" = some (isTupD d) := by
  cases d
  · show kitB "NoneType" "tuple" = some false; decide +kernel
  · show kitB "bool" "tuple" = some false; decide +kernel
  · show kitB "int" "tuple" = some false; decide +kernel
  · show kitB "str" "tuple" = some false; decide +kernel
  · show kitB "list" "tuple" = some false; decide +kernel
  · show kitB "tuple" "tuple" = some true; decide +kernel
  · show kitB "dict" "tuple" = some false; decide +kernel
section
variable {X : Cx} {ρ : Env} {M : Mem} {pos p p2 : Pos} {e : Expr} {d : D}
theorem pd_isStr (B : Bt X.mg) (ha : PD X e ρ M d) (hg : Gl X "isinstance" := by rfl) (hg2 : Gl X "str" := by rfl) (hs : starEach [e, .Name "str" p2] X.env = (false, eval e X.env) :: starEach [.Name "str" p2] X.env := by rfl) : PD X (.Call (.Name "isinstance" p) [e, .Name "str" p2] [] pos) ρ M (.bool (isStrD d)) := pd_isi hg B.isi hg2 B.str boot_str ha (kit_str d) hs
theorem pd_isInt (B : Bt X.mg) (ha : PD X e ρ M d) (hg : Gl X "isinstance" := by rfl) (hg2 : Gl X "int" := by rfl) (hs : starEach [e, .Name "int" p2] X.env = (false, eval e X.env) :: starEach [.Name "int" p2] X.env := by rfl) : PD X (.Call (.Name "isinstance" p) [e, .Name "int" p2] [] pos) ρ M (.bool (isIntD d)) := pd_isi hg B.isi hg2 B.int boot_int ha (kit_int d) hs
theorem pd_isBool (B : Bt X.mg) (ha : PD X e ρ M d) (hg : Gl X "isinstance" := by rfl) (hg2 : Gl X "bool" := by rfl) (hs : starEach [e, .Name "bool" p2] X.env = (false, eval e X.env) :: starEach [.Name "bool" p2] X.env := by rfl) : PD X (.Call (.Name "isinstance" p) [e, .Name "bool" p2] [] pos) ρ M (.bool (isBoolD d)) := pd_isi hg B.isi hg2 B.bool boot_bool ha (kit_bool d) hs
theorem pd_isTup (B : Bt X.mg) (ha : PD X e ρ M d) (hg : Gl X "isinstance" := by rfl) (hg2 : Gl X "tuple" := by rfl) (hs : starEach [e, .Name "tuple" p2] X.env = (false, eval e X.env) :: starEach [.Name "tuple" p2] X.env := by rfl) : PD X (.Call (.Name "isinstance" p) [e, .Name "tuple" p2] [] pos) ρ M (.bool (isTupD d)) := pd_isi hg B.isi hg2 B.tuple boot_tuple ha (kit_tup d) hs
end
/-! ### data of a bounded size -/
def okD : Nat → D → Prop
  | _, .none => True
  | _, .bool _ => True
  | _, .int _ => True
  | _, .str s => PyData.strOk s = true ∧ s.length ≤ 1000
  | n, .tuple ds => match n with | 0 => False | n + 1 => ds.length ≤ 1000 ∧ ∀ d ∈ ds, okD n d
  | n, .list ds => match n with | 0 => False | n + 1 => ds.length ≤ 1000 ∧ ∀ d ∈ ds, okD n d
  | _, .dict _ => False
theorem okD_succ : ∀ (n : Nat) (d : D), okD n d → okD (n + 1) d
  | n, .none, _ => by cases n <;> trivial
  | n, .bool _, _ => by cases n <;> trivial
  | n, .int _, _ => by cases n <;> trivial
  | n, .str s, h => by cases n <;> simpa [okD] using h
  | 0, .tuple ds, h => by simp [okD] at h
  | 0, .list ds, h => by simp [okD] at h
  | n + 1, .tuple ds, h => by
    simp only [okD] at h ⊢
    exact ⟨h.1, fun d hd => okD_succ n d (h.2 d hd)⟩
  | n + 1, .list ds, h => by
    simp only [okD] at h ⊢
    exact ⟨h.1, fun d hd => okD_succ n d (h.2 d hd)⟩
  | n, .dict _, h => by cases n <;> simp [okD] at h
theorem okD_le {n m : Nat} {d : D} (h : okD n d) (hm : n ≤ m) : okD m d := by
  induction m with
  | zero => cases Nat.le_zero.mp hm; exact h
  | succ m ih =>
    by_cases e : n = m + 1
    · subst e; exact h
    · exact okD_succ m d (ih (by omega))
theorem okD_tup {n : Nat} {ds : List D} (hl : ds.length ≤ 1000) (h : ∀ d ∈ ds, okD n d) : okD (n + 1) (.tuple ds) := by simp only [okD]; exact ⟨hl, h⟩
theorem okD_lst {n : Nat} {ds : List D} (hl : ds.length ≤ 1000) (h : ∀ d ∈ ds, okD n d) : okD (n + 1) (.list ds) := by simp only [okD]; exact ⟨hl, h⟩
theorem okD_tup' {n : Nat} {ds : List D} (h : okD n (.tuple ds)) : ds.length ≤ 1000 ∧ ∃ m, n = m + 1 ∧ ∀ d ∈ ds, okD m d := by
  cases n with
  | zero => simp [okD] at h
  | succ n => simp only [okD] at h; exact ⟨h.1, n, rfl, h.2⟩
theorem okD_lst' {n : Nat} {ds : List D} (h : okD n (.list ds)) : ds.length ≤ 1000 ∧ ∃ m, n = m + 1 ∧ ∀ d ∈ ds, okD m d := by
  cases n with
  | zero => simp [okD] at h
  | succ n => simp only [okD] at h; exact ⟨h.1, n, rfl, h.2⟩
theorem okD_str {n : Nat} {s : Str} (h : okD n (.str s)) : PyData.strOk s = true ∧ s.length ≤ 1000 := by cases n <;> simpa [okD] using h
theorem okD_str' {n : Nat} {s : Str} (h1 : PyData.strOk s = true) (h2 : s.length ≤ 1000) : okD n (.str s) := by cases n <;> exact ⟨h1, h2⟩
theorem okD_int {n : Nat} {i : Int} : okD n (.int i) := by cases n <;> trivial
theorem okD_bool {n : Nat} {i : Bool} : okD n (.bool i) := by cases n <;> trivial
theorem okD_none {n : Nat} : okD n .none := by cases n <;> trivial
mutual
theorem lay_of_ok : ∀ (n : Nat) (d : D), okD n d → d.canLay0 = true ∧ d.depth ≤ n
  | n, .none, _ => ⟨rfl, Nat.zero_le _⟩
  | n, .bool _, _ => ⟨rfl, Nat.zero_le _⟩
  | n, .int _, _ => ⟨rfl, Nat.zero_le _⟩
  | n, .str s, h => ⟨by simpa [PyData.canLay0] using (okD_str h).1, Nat.zero_le _⟩
  | 0, .tuple ds, h => by simp [okD] at h
  | 0, .list ds, h => by simp [okD] at h
  | n + 1, .tuple ds, h => by
    simp only [okD] at h
    have := layAll_of_ok n ds h.2
    exact ⟨by simpa [PyData.canLay0] using this.1, by simp only [PyData.depth]; omega⟩
  | n + 1, .list ds, h => by
    simp only [okD] at h
    have := layAll_of_ok n ds h.2
    exact ⟨by simpa [PyData.canLay0] using this.1, by simp only [PyData.depth]; omega⟩
  | n, .dict _, h => by cases n <;> simp [okD] at h
theorem layAll_of_ok : ∀ (n : Nat) (ds : List D), (∀ d ∈ ds, okD n d) → PyData.canLayAll0 ds = true ∧ PyData.depthAll ds ≤ n
  | n, [], _ => ⟨rfl, Nat.zero_le _⟩
  | n, d :: ds, h => by
    have h1 := lay_of_ok n d (h d List.mem_cons_self)
    have h2 := layAll_of_ok n ds fun x hx => h x (List.mem_cons_of_mem _ hx)
    refine ⟨?_, ?_⟩
    · simp only [PyData.canLayAll0, h1.1, h2.1, Bool.and_self]
    · simp only [PyData.depthAll]; omega
end
theorem shaped_ok {n : Nat} {d : D} (h : okD n d) (hn : n ≤ 60) : SeqAt.shaped d = true := by
  have := lay_of_ok n d h
  unfold SeqAt.shaped
  rw [this.1, Bool.true_and]
  exact decide_eq_true (by omega)
theorem okD_refl {n : Nat} {d : D} (h : okD n d) : PyData.eqv d d = true := SeqAt.eqv_refl d (lay_of_ok n d h).1
theorem len_ok {n : Nat} {s : Str} (h : okD n (.str s)) : s.length ≤ sizeLine := Nat.le_trans (okD_str h).2 (by decide)
/-! ### keys, worths, books, changes: what the law and the program tell -/
def lowC (c : Nat) : Bool := decide (97 ≤ c) && decide (c ≤ 122)
def isKeyS (s : Str) : Bool := decide (1 ≤ (s.length : Int)) && decide ((s.length : Int) ≤ 4) && s.cps.toList.all lowC
def isKeyD : D → Bool
  | .str s => isKeyS s
  | _ => false
def isWorthD : D → Bool
  | .int i => decide (0 ≤ i) && decide (i < 1000)
  | _ => false
def isPairD : D → Bool
  | .tuple [a, b] => isKeyD a && isWorthD b
  | _ => false
def ltS (s t : Str) : Bool := decide (s.cps.toList < t.cps.toList)
/-- of two pairs: the first one's key is less -/
def ltP : D → D → Bool
  | .tuple (.str s :: _), .tuple (.str t :: _) => ltS s t
  | _, _ => false
def risingD : List D → Bool
  | x :: y :: r => ltP x y && risingD (y :: r)
  | _ => true
def isBookD : D → Bool
  | .tuple ds => ds.all isPairD && risingD ds
  | _ => false
def isChangeD : D → Bool
  | .tuple [.str w, k] => isKeyD k && decide (w = "drop")
  | .tuple [.str w, k, x] => isKeyD k && ((decide (w = "move") && isKeyD x) || ((decide (w = "put") || decide (w = "add") || decide (w = "keep")) && isWorthD x))
  | _ => false
def letters : Str := "abcdefghijklmnopqrstuvwxyz"
theorem letters_list : letters.cps.toList = [97, 98, 99, 100, 101, 102, 103, 104, 105, 106, 107, 108, 109, 110, 111, 112, 113, 114, 115, 116, 117, 118, 119, 120, 121, 122] := by decide +kernel
theorem low_letters (c : Nat) : decide (c ∈ letters.cps.toList) = lowC c := by
  rw [letters_list]
  unfold lowC
  by_cases h : 97 ≤ c ∧ c ≤ 122
  · have : c ∈ [97, 98, 99, 100, 101, 102, 103, 104, 105, 106, 107, 108, 109, 110, 111, 112, 113, 114, 115, 116, 117, 118, 119, 120, 121, 122] := by
      simp only [List.mem_cons, List.not_mem_nil, or_false]; omega
    rw [decide_eq_true this, decide_eq_true h.1, decide_eq_true h.2]; rfl
  · have : ¬ c ∈ [97, 98, 99, 100, 101, 102, 103, 104, 105, 106, 107, 108, 109, 110, 111, 112, 113, 114, 115, 116, 117, 118, 119, 120, 121, 122] := by
      simp only [List.mem_cons, List.not_mem_nil, or_false]; omega
    rw [decide_eq_false this]
    by_cases h1 : 97 ≤ c
    · rw [decide_eq_true h1, decide_eq_false (by omega)]; rfl
    · rw [decide_eq_false h1]; rfl
def FB1 (f : D → Bool) : List D → D → Prop := fun ds d => ∃ (t : D) (n : Nat), ds = [t] ∧ okD n t ∧ n ≤ 50 ∧ d = .bool (f t)
theorem fm_signs (z : Str) (g : Nat → D) (f : D → Option D) (h : ∀ c, f (.str ⟨#[c]⟩) = some (g c)) : (signsD z).filterMap f = z.cps.toList.map g := by
  unfold signsD
  rw [List.filterMap_map, ← List.filterMap_eq_map]
  exact fm_congr _ fun m _ => h m
theorem mem_signs {z : Str} {d : D} (h : d ∈ signsD z) : ∃ c, d = .str ⟨#[c]⟩ := by
  obtain ⟨c, _, e⟩ := List.mem_map.mp h
  exact ⟨c, e.symm⟩
theorem signs_len (z : Str) : (signsD z).length = z.length := by unfold signsD; rw [List.length_map, Array.length_toList]; rfl
theorem pair_form {d : D} (h : isPairD d = true) : ∃ k w, d = .tuple [.str k, .int w] := by
  unfold isPairD at h
  split at h
  · rename_i a b
    rw [Bool.and_eq_true] at h
    obtain ⟨h1, h2⟩ := h
    unfold isKeyD at h1
    unfold isWorthD at h2
    split at h1
    · split at h2
      · exact ⟨_, _, rfl⟩
      · cases h2
    · cases h1
  · cases h
theorem fm_some {α β : Type} (g : α → β) (l : List α) : l.filterMap (fun d => some (g d)) = l.map g := by
  rw [← List.filterMap_eq_map]; rfl
theorem cutD_len {α : Type} (xs : List α) (lo hi : Option Int) : (cutD xs lo hi).length ≤ xs.length := by
  unfold cutD
  rw [List.length_take, List.length_drop]; omega
theorem cutD_mem {α : Type} {xs : List α} {lo hi : Option Int} {x : α} (h : x ∈ cutD xs lo hi) : x ∈ xs := List.mem_of_mem_drop (List.mem_of_mem_take h)
theorem cutD_init {α : Type} (xs : List α) : cutD xs none (some (-1)) = xs.dropLast := by
  unfold cutD
  have e : HT.sIx xs.length xs.length (some (-1)) = xs.length - 1 := by
    show (if (-1 : Int) < 0 then ((-1 : Int) + (xs.length : Int)).toNat else min (-1 : Int).toNat xs.length) = _
    rw [if_pos (by decide)]; omega
  rw [e, HT.sIx_none, List.drop_zero, Nat.sub_zero, List.dropLast_eq_take]
theorem cutD_tail {α : Type} (xs : List α) : cutD xs (some 1) none = xs.drop 1 := by
  unfold cutD
  have e : HT.sIx xs.length 0 (some 1) = min 1 xs.length := HT.sIx_nat xs.length 0 1
  rw [e, HT.sIx_none]
  cases xs with
  | nil => rfl
  | cons x r =>
    rw [show min 1 (x :: r).length = 1 by rw [List.length_cons]; omega]
    exact List.take_of_length_le (by simp)
/-- the keys of a pair of pairs rise -/
def pairLt : D → Bool
  | .tuple [x, y] => ltP x y
  | _ => false
theorem rising_zip (l : List D) : (zipD (cutD l none (some (-1))) (cutD l (some 1) none)).all (id ∘ pairLt) = risingD l := by
  rw [cutD_init, cutD_tail]
  unfold zipD
  rw [List.all_map]
  match l with
  | [] => rfl
  | [_] => rfl
  | x :: y :: r =>
    have ih := rising_zip (y :: r)
    rw [cutD_init, cutD_tail] at ih
    unfold zipD at ih
    rw [List.all_map] at ih
    unfold risingD
    rw [← ih, List.dropLast_cons_cons]
    rfl
theorem change_short {l : List D} (h : (l.length : Int) < 2) : isChangeD (.tuple l) = false := by
  match l, h with
  | [], _ => rfl
  | [_], _ => unfold isChangeD; split <;> first | rfl | (rename_i q; cases q)
theorem change_word {x y : D} {l : List D} (h : isStrD x = false) : isChangeD (.tuple (x :: y :: l)) = false := by
  unfold isChangeD
  split
  · rename_i q; cases q; cases h
  · rename_i q; cases q; cases h
  · rfl
theorem change_key {x y : D} {l : List D} (h : isKeyD y = false) : isChangeD (.tuple (x :: y :: l)) = false := by
  unfold isChangeD
  split
  · rename_i q; cases q; rw [h]; rfl
  · rename_i q; cases q; rw [h]; rfl
  · rfl
theorem change_two (w : Str) (y : D) (h : isKeyD y = true) : isChangeD (.tuple [.str w, y]) = decide (w = "drop") := by
  show (isKeyD y && _) = _
  rw [h, Bool.true_and]
theorem change_three (w : Str) (y z : D) (h : isKeyD y = true) : isChangeD (.tuple [.str w, y, z]) = ((decide (w = "move") && isKeyD z) || ((decide (w = "put") || decide (w = "add") || decide (w = "keep")) && isWorthD z)) := by
  show (isKeyD y && _) = _
  rw [h, Bool.true_and]
theorem change_more (w y : D) (l : List D) (h1 : (l.length : Int) + 2 ≠ 2) (h2 : (l.length : Int) + 2 ≠ 3) : isChangeD (.tuple (w :: y :: l)) = false := by
  match l, h1, h2 with
  | [], h1, _ => exact absurd rfl h1
  | [_], _, h2 => exact absurd rfl h2
  | _ :: _ :: _, _, _ => unfold isChangeD; split <;> first | rfl | (rename_i q; cases q)
section
variable {X : Cx} {ρ : Env} {M : Mem} {pos : Pos} {a b : Expr}
/-- a text in a tuple of texts -/
theorem inV_strs (s : Str) : ∀ ts : List Str, inV (.str s) (ts.map V.str) = decide (s ∈ ts)
  | [] => rfl
  | t :: ts => by
    show (eqV (.str t) (.str s) || inV (.str s) (ts.map V.str)) = _
    rw [inV_strs s ts]
    have : eqV (.str t) (.str s) = decide (s = t) := by
      show decide (t = s) = decide (s = t)
      by_cases h : s = t
      · subst h; rfl
      · rw [decide_eq_false h, decide_eq_false fun q => h q.symm]
    rw [this]
    by_cases h : s = t
    · subst h; simp
    · simp [h]
theorem pd_inStrs {s : Str} {ts : List Str} (ha : PD X a ρ M (.str s)) (hb : PD X b ρ M (.tuple (ts.map .str))) (hm : behindInMarks .In b = false := by rfl) : PD X (.Compare a [.In] [b] pos) ρ M (.bool (decide (s ∈ ts))) :=
  pd_cmp op_in_seq (fun Hs H v u Q i p q k => by
    obtain ⟨l, vs, rfl, h1, h2⟩ := dp_tup q
    have e := dpAll_strs h2
    subst e
    refine ⟨l, _, rfl, .inr (h1.mono i).sq, by rw [dp_str p]; rfl, by simp [flatV], ?_⟩
    rw [dp_str p]
    show Q (.bl (inV (.str s) (ts.map V.str))) H
    rw [inV_strs]
    exact k _ Hs H (.refl i) (.bl _)) ha hb hm
theorem ptd_inStrs {s : Str} {ts : List Str} (ha : PD X a ρ M (.str s)) (hb : PD X b ρ M (.tuple (ts.map .str))) (hm : behindInMarks .In b = false := by rfl) : PTD X (.Compare a [.In] [b] pos) ρ M (decide (s ∈ ts)) :=
  ptd_cmp op_in_seq (fun Hs H v u Q i p q k => by
    obtain ⟨l, vs, rfl, h1, h2⟩ := dp_tup q
    have e := dpAll_strs h2
    subst e
    refine ⟨l, _, rfl, .inr (h1.mono i).sq, by rw [dp_str p]; rfl, by simp [flatV], ?_⟩
    rw [dp_str p]
    show Q (.bl (inV (.str s) (ts.map V.str))) H
    rw [inV_strs]
    exact k _ Hs H (.refl i) (.bl _)) ha hb hm
end
/-! ### the law's own key test -/
theorem one_lt (c d : Nat) : decide (([c] : List Nat) < [d]) = decide (c < d) := by
  by_cases h : c < d
  · rw [decide_eq_true h]; exact decide_eq_true (List.cons_lt_cons_iff.mpr (.inl h))
  · rw [decide_eq_false h]
    refine decide_eq_false fun q => ?_
    rcases List.cons_lt_cons_iff.mp q with q | ⟨_, q⟩
    · exact h q
    · exact absurd q (List.not_lt_nil _)
theorem low_chain (c : Nat) : (!decide (([c] : List Nat) < ("a" : Str).cps.toList) && !decide (("z" : Str).cps.toList < ([c] : List Nat))) = lowC c := by
  rw [show ("a" : Str).cps.toList = [97] by decide +kernel, show ("z" : Str).cps.toList = [122] by decide +kernel, one_lt, one_lt]
  unfold lowC
  by_cases h1 : c < 97
  · rw [decide_eq_true h1, decide_eq_false (show ¬ 97 ≤ c by omega)]; rfl
  · rw [decide_eq_false h1, decide_eq_true (show 97 ≤ c by omega)]
    by_cases h2 : 122 < c
    · rw [decide_eq_true h2, decide_eq_false (show ¬ c ≤ 122 by omega)]; rfl
    · rw [decide_eq_false h2, decide_eq_true (show c ≤ 122 by omega)]; rfl
/-- by a text's one sign -/
def signF (g : Nat → Option D) (d : D) : Option D := match d with | .str s => (match s.cps.toList with | [c] => g c | _ => none) | _ => none
theorem fm_signF (g : Nat → Option D) (z : Str) : (signsD z).filterMap (signF g) = z.cps.toList.filterMap g := by
  unfold signsD
  rw [List.filterMap_map]
  exact fm_congr _ fun m _ => rfl
theorem fm_low (z : Str) : PyData.list ((signsD z).filterMap (signF fun c => if lowC c then none else some (.str ⟨#[c]⟩))) = .list ((z.cps.toList.filter fun c => !lowC c).map fun c => .str ⟨#[c]⟩) := by
  rw [fm_signF]
  congr 1
  induction z.cps.toList with
  | nil => rfl
  | cons c l ih =>
    rw [List.filterMap_cons, List.filter_cons]
    cases hc : lowC c with
    | true => exact ih
    | false => exact congrArg (PyData.str ⟨#[c]⟩ :: ·) ih
theorem eqv_nil (l : List D) : PyData.eqv (.list l) (.list []) = l.isEmpty := by
  cases l with
  | nil => rfl
  | cons a l => rfl
theorem eqv_nilT (l : List D) : PyData.eqv (.tuple l) (.tuple []) = l.isEmpty := by
  cases l with
  | nil => rfl
  | cons a l => rfl
theorem empty_not {α : Type} (p : α → Bool) (l : List α) : (l.filter fun x => !p x).isEmpty = l.all p := by
  induction l with
  | nil => rfl
  | cons a l ih =>
    rw [List.filter_cons, List.all_cons]
    cases p a with
    | true => simpa using ih
    | false => rfl
theorem not_t {b : Bool} (h : (!b) = true) : b = false := by cases b; rfl; cases h
theorem not_f {b : Bool} (h : (!b) = false) : b = true := by cases b; cases h; rfl
theorem one_len (c n : Nat) : (⟨#[c]⟩ : Str).length ≤ n + 1 := by show 1 ≤ n + 1; omega
/-- pairs whose keys rise from last on -/
def goodTo (last : Str) : List D → Bool
  | [] => true
  | d :: r => isPairD d && (match d with | .tuple (.str k :: _) => ltS last k && goodTo k r | _ => false)
theorem lt_empty (k : Str) (h : isKeyS k = true) : ltS "" k = true := by
  unfold ltS
  refine decide_eq_true ?_
  have e : ("" : Str).cps.toList = [] := by decide +kernel
  rw [e]
  unfold isKeyS at h
  rw [Bool.and_eq_true, Bool.and_eq_true] at h
  have h1 := of_decide_eq_true h.1.1
  have hl : k.length = k.cps.toList.length := by rw [Array.length_toList]; rfl
  cases q : k.cps.toList with
  | nil => rw [hl, q] at h1; simp at h1
  | cons a l => exact List.nil_lt_cons a l
theorem good_from (l : List D) : ∀ (k : Str) (x : D), isPairD (.tuple [.str k, x]) = true → goodTo k l = (l.all isPairD && risingD (.tuple [.str k, x] :: l)) := by
  induction l with
  | nil => intro k x _; rfl
  | cons d r ih =>
    intro k x hk
    show (isPairD d && _) = ((isPairD d && r.all isPairD) && (ltP (.tuple [.str k, x]) d && risingD (d :: r)))
    cases q : isPairD d with
    | false => rfl
    | true =>
      obtain ⟨k2, w2, rfl⟩ := pair_form q
      show (true && (ltS k k2 && goodTo k2 r)) = ((true && r.all isPairD) && (ltS k k2 && risingD _))
      rw [ih k2 (.int w2) q]
      cases ltS k k2 <;> cases r.all isPairD <;> rfl
theorem good_book (l : List D) : goodTo "" l = isBookD (.tuple l) := by
  cases l with
  | nil => rfl
  | cons d r =>
    show (isPairD d && _) = ((isPairD d && r.all isPairD) && risingD (d :: r))
    cases q : isPairD d with
    | false => rfl
    | true =>
      obtain ⟨k2, w2, rfl⟩ := pair_form q
      have hk : isKeyS k2 = true := by
        have : (isKeyS k2 && isWorthD (.int w2)) = true := q
        rw [Bool.and_eq_true] at this
        exact this.1
      show (true && (ltS "" k2 && goodTo k2 r)) = ((true && r.all isPairD) && risingD _)
      rw [lt_empty k2 hk, good_from r k2 (.int w2) q]; rfl
/-! ### the law's sizes of changes -/
def sizesK : List (Str × Int) := [("put", 3), ("add", 3), ("keep", 3), ("drop", 2), ("move", 3)]
def sizeW (w : Str) : Int := if w = "put" then 3 else if w = "add" then 3 else if w = "keep" then 3 else if w = "drop" then 2 else if w = "move" then 3 else 0
theorem sizesK_merge : mergeA sizesK = sizesK := by decide +kernel
theorem sizeW_get (w : Str) : getA PyData.int (mergeA sizesK) w (.int 0) = .int (sizeW w) := by
  rw [sizesK_merge]
  unfold getA sizesK sizeW
  by_cases h1 : w = "put"
  · subst h1; rw [lookA_pos rfl, if_pos rfl]
  rw [lookA_neg fun q => h1 q.symm, if_neg h1]
  by_cases h2 : w = "add"
  · subst h2; rw [lookA_pos rfl, if_pos rfl]
  rw [lookA_neg fun q => h2 q.symm, if_neg h2]
  by_cases h3 : w = "keep"
  · subst h3; rw [lookA_pos rfl, if_pos rfl]
  rw [lookA_neg fun q => h3 q.symm, if_neg h3]
  by_cases h4 : w = "drop"
  · subst h4; rw [lookA_pos rfl, if_pos rfl]
  rw [lookA_neg fun q => h4 q.symm, if_neg h4]
  by_cases h5 : w = "move"
  · subst h5; rw [lookA_pos rfl, if_pos rfl]
  rw [lookA_neg fun q => h5 q.symm, if_neg h5]
  rfl
theorem sizeW_cases (w : Str) : sizeW w = 3 ∨ sizeW w = 2 ∨ sizeW w = 0 := by
  unfold sizeW
  split <;> (try split) <;> (try split) <;> (try split) <;> (try split) <;> simp
theorem sizeW_other (w : Str) {n : Nat} (h : ((n + 1 + 1 : Nat) : Int) = sizeW w) (hd : w ≠ "drop") (hm : w ≠ "move") : sizeW w = 3 ∧ (decide (w = "put") || decide (w = "add") || decide (w = "keep")) = true := by
  unfold sizeW at h ⊢
  by_cases h1 : w = "put"
  · rw [if_pos h1, decide_eq_true h1]; exact ⟨rfl, rfl⟩
  rw [if_neg h1] at h ⊢
  by_cases h2 : w = "add"
  · rw [if_pos h2, decide_eq_true h2]; exact ⟨rfl, by simp⟩
  rw [if_neg h2] at h ⊢
  by_cases h3 : w = "keep"
  · rw [if_pos h3, decide_eq_true h3]; exact ⟨rfl, by simp⟩
  rw [if_neg h3, if_neg hd, if_neg hm] at h
  exfalso; omega
theorem sizeW_no (w : Str) (r : List D) (h : ¬ ((.str w :: r : List D).length : Int) = sizeW w) : isChangeD (.tuple (.str w :: r)) = false := by
  match r with
  | [] => exact change_short (by show ((1 : Nat) : Int) < 2; decide)
  | [y] =>
    show (isKeyD y && decide (w = "drop")) = false
    have : ¬ w = "drop" := fun q => h (by subst q; show ((2 : Nat) : Int) = _; decide +kernel)
    rw [decide_eq_false this, Bool.and_false]
  | [y, z] =>
    show (isKeyD y && ((decide (w = "move") && isKeyD z) || ((decide (w = "put") || decide (w = "add") || decide (w = "keep")) && isWorthD z))) = false
    have n1 : ¬ w = "move" := fun q => h (by subst q; show ((3 : Nat) : Int) = _; decide +kernel)
    have n2 : ¬ w = "put" := fun q => h (by subst q; show ((3 : Nat) : Int) = _; decide +kernel)
    have n3 : ¬ w = "add" := fun q => h (by subst q; show ((3 : Nat) : Int) = _; decide +kernel)
    have n4 : ¬ w = "keep" := fun q => h (by subst q; show ((3 : Nat) : Int) = _; decide +kernel)
    rw [decide_eq_false n1, decide_eq_false n2, decide_eq_false n3, decide_eq_false n4]
    simp
  | y :: z :: z' :: r => exact change_more _ _ _ (by simp only [List.length_cons]; omega) (by simp only [List.length_cons]; omega)
theorem change_noword {x : D} (r : List D) (h : isStrD x = false) : isChangeD (.tuple (x :: r)) = false := by
  cases r with
  | nil => exact change_short (by show ((1 : Nat) : Int) < 2; decide)
  | cons y r => exact change_word h
theorem rd_eqStr {K : Fg} {s t : Str} : RD K rEq (.str s) (.str t) (.bool (decide (s = t))) := fun Hs H v u Q i p q k => by
  cases p; cases q
  refine ⟨rfl, k _ Hs H (.refl i) ?_⟩
  have : decide (V.str s = V.str t) = decide (s = t) := by
    by_cases h : s = t
    · subst h; simp
    · rw [decide_eq_false h, decide_eq_false fun q => h (V.str.inj q)]
  rw [this]; exact .bl _
end AB
namespace AB
open PySem L2
/-! ### the law's spoilt things (k01) -/
theorem atI_getD {α : Type} (l : List α) (i : Int) (d : α) (h0 : 0 ≤ i) (h1 : i < (l.length : Int)) : atI l i = some (l.getD i.toNat d) := by
  unfold atI ixN
  rw [if_pos h0, if_pos h1]
  show l[i.toNat]? = _
  have hlt : i.toNat < l.length := by omega
  rw [List.getD_eq_getElem?_getD, List.getElem?_eq_getElem hlt]; rfl
theorem getD_mem {α : Type} (l : List α) (i : Nat) (d : α) (h : i < l.length) : l.getD i d ∈ l := by
  rw [List.getD_eq_getElem?_getD, List.getElem?_eq_getElem h]; exact List.getElem_mem h
/-- small data -/
def okS : Nat → D → Prop
  | _, .none => True
  | _, .bool _ => True
  | _, .int _ => True
  | _, .str s => PyData.strOk s = true ∧ s.length ≤ 100
  | n, .tuple ds => match n with | 0 => False | n + 1 => ds.length ≤ 100 ∧ ∀ d ∈ ds, okS n d
  | _, .list _ => False
  | _, .dict _ => False
theorem okS_tup {n : Nat} {ds : List D} (hl : ds.length ≤ 100) (h : ∀ d ∈ ds, okS n d) : okS (n + 1) (.tuple ds) := by simp only [okS]; exact ⟨hl, h⟩
theorem okS_tup' {n : Nat} {ds : List D} (h : okS n (.tuple ds)) : ds.length ≤ 100 ∧ ∃ m, n = m + 1 ∧ ∀ d ∈ ds, okS m d := by
  cases n with
  | zero => simp [okS] at h
  | succ n => simp only [okS] at h; exact ⟨h.1, n, rfl, h.2⟩
theorem okS_ok : ∀ (n : Nat) (d : D), okS n d → okD n d
  | n, .none, _ => okD_none
  | n, .bool _, _ => okD_bool
  | n, .int _, _ => okD_int
  | n, .str s, h => by
    have h : PyData.strOk s = true ∧ s.length ≤ 100 := by cases n <;> simpa [okS] using h
    exact okD_str' h.1 (Nat.le_trans h.2 (by decide))
  | 0, .tuple ds, h => by simp [okS] at h
  | n + 1, .tuple ds, h => by
    simp only [okS] at h
    exact okD_tup (Nat.le_trans h.1 (by decide)) fun d hd => okS_ok n d (h.2 d hd)
  | n, .list _, h => by cases n <;> simp [okS] at h
  | n, .dict _, h => by cases n <;> simp [okS] at h
def some17 : List D := [.none, .bool true, .int 0, .int 999, .int 1000, .int (-1), .str "", .str "a", .str "abcd", .str "abcde", .str "A", .str "put", .str "move", .str "drop", .str "7", .tuple [], .tuple [.str "a"]]
def some4 : List D := [.tuple [.str "a", .int 1], .list [.str "a", .int 1], .tuple [.str "put", .str "a", .int 1], .str "keep"]
def menu21 : List D := some17 ++ some4
def menu6 (ts : List D) : List D := [.list ts, .tuple (cutD ts none (some (-1))), .tuple (ts ++ cutD ts (some (-1)) none), .tuple (cutD ts (some 1) none), .tuple ts.reverse, .tuple (ts ++ ts)]
def isFull : D → Bool
  | .tuple (_ :: _) => true
  | _ => false
def partsD : D → List D
  | .tuple ts => ts
  | _ => []
def spoiltLeaf (t : D) (n : Int) : D := if isFull t = true ∧ n / 6 % 2 = 0 then (menu6 (partsD t)).getD (n / 12 % 6).toNat .none else menu21.getD (n / 6 % 21).toNat .none
def spoilt : Nat → D → Int → D
  | 0, t, n => spoiltLeaf t n
  | k + 1, t, n => if isFull t = true ∧ 0 < n % 6 then
      .tuple (cutD (partsD t) none (some (n / 6 % (partsD t).length)) ++ [spoilt k ((partsD t).getD (n / 6 % (partsD t).length).toNat .none) (drawn n ((k + 1 : Nat) : Int) / 4)] ++ cutD (partsD t) (some (n / 6 % (partsD t).length + 1)) none)
    else spoiltLeaf t n
def FSpoilt (k : Nat) : List D → D → Prop := fun ds d => ∃ (t : D) (n : Int) (j : Nat), ds = [t, .int n, .int (j : Nat)] ∧ okS 5 t ∧ 0 ≤ n ∧ j ≤ k ∧ j ≤ 100 ∧ d = spoilt j t n
theorem ok_menu : ∀ d ∈ menu21, okD 1 d := by
  have hs : ∀ s : Str, (PyData.strOk s && decide (s.length ≤ 1000)) = true → okD 1 (.str s) := fun s h => by
    rw [Bool.and_eq_true] at h
    exact okD_str' h.1 (of_decide_eq_true h.2)
  have hs0 : ∀ s : Str, (PyData.strOk s && decide (s.length ≤ 1000)) = true → okD 0 (.str s) := fun s h => by
    rw [Bool.and_eq_true] at h
    exact okD_str' h.1 (of_decide_eq_true h.2)
  intro d hd
  simp only [menu21, some17, some4, List.cons_append, List.nil_append, List.mem_cons, List.not_mem_nil, or_false] at hd
  rcases hd with rfl | rfl | rfl | rfl | rfl | rfl | rfl | rfl | rfl | rfl | rfl | rfl | rfl | rfl | rfl | rfl | rfl | rfl | rfl | rfl | rfl
  all_goals first
    | exact okD_none
    | exact okD_bool
    | exact okD_int
    | exact hs _ (by decide +kernel)
    | exact okD_tup (by decide) (fun d hd => by simp only [List.not_mem_nil] at hd)
    | exact okD_tup (Nat.le_of_ble_eq_true rfl) (fun d hd => by
        simp only [List.mem_cons, List.not_mem_nil, or_false] at hd
        rcases hd with rfl | rfl | rfl <;> first | exact okD_int | exact hs0 _ (by decide +kernel))
    | exact okD_tup (Nat.le_of_ble_eq_true rfl) (fun d hd => by
        simp only [List.mem_cons, List.not_mem_nil, or_false] at hd
        rcases hd with rfl | rfl <;> first | exact okD_int | exact hs0 _ (by decide +kernel))
    | exact okD_tup (Nat.le_of_ble_eq_true rfl) (fun d hd => by
        simp only [List.mem_cons, List.not_mem_nil, or_false] at hd
        subst hd; exact hs0 _ (by decide +kernel))
    | exact okD_lst (Nat.le_of_ble_eq_true rfl) (fun d hd => by
        simp only [List.mem_cons, List.not_mem_nil, or_false] at hd
        rcases hd with rfl | rfl <;> first | exact okD_int | exact hs0 _ (by decide +kernel))
theorem full_parts {t : D} (h : isFull t = true) : ∃ x r, t = .tuple (x :: r) := by
  unfold isFull at h
  split at h
  · exact ⟨_, _, rfl⟩
  · cases h
theorem ok_leaf {n : Nat} {t : D} (h : okS (n + 1) t) (i : Int) (hi : 0 ≤ i) : okD (n + 1) (spoiltLeaf t i) := by
  unfold spoiltLeaf
  split
  · rename_i q
    obtain ⟨x, r, rfl⟩ := full_parts q.1
    obtain ⟨hl, m, e, hm⟩ := okS_tup' h
    cases e
    have hm : ∀ d ∈ x :: r, okD n d := fun d hd => okS_ok n d (hm d hd)
    have hall : ∀ d ∈ menu6 (x :: r), okD (n + 1) d := fun d hd => by
      have c1 := cutD_len (x :: r) none (some (-1))
      have c2 := cutD_len (x :: r) (some (-1)) none
      have c3 := cutD_len (x :: r) (some 1) none
      simp only [menu6, List.mem_cons, List.not_mem_nil, or_false] at hd
      rcases hd with rfl | rfl | rfl | rfl | rfl | rfl
      · exact okD_lst (by omega) hm
      · exact okD_tup (by omega) fun d hd => hm d (cutD_mem hd)
      · exact okD_tup (by rw [List.length_append]; omega) fun d hd => (List.mem_append.mp hd).elim (hm d) fun z => hm d (cutD_mem z)
      · exact okD_tup (by omega) fun d hd => hm d (cutD_mem hd)
      · exact okD_tup (by rw [List.length_reverse]; omega) fun d hd => hm d (List.mem_reverse.mp hd)
      · exact okD_tup (by rw [List.length_append]; omega) fun d hd => (List.mem_append.mp hd).elim (hm d) (hm d)
    exact hall _ (getD_mem _ _ _ (by show _ < 6; omega))
  · exact okD_le (ok_menu _ (getD_mem _ _ _ (by show _ < 21; omega))) (by omega)
theorem ok_spoilt : ∀ (k : Nat) {n : Nat} {t : D}, okS (n + k + 1) t → ∀ (i : Int), 0 ≤ i → okD (n + k + 1) (spoilt k t i)
  | 0, n, t, h, i, hi => ok_leaf h i hi
  | k + 1, n, t, h, i, hi => by
    unfold spoilt
    split
    · rename_i q
      obtain ⟨x, r, rfl⟩ := full_parts q.1
      obtain ⟨hl, m, e, hm⟩ := okS_tup' h
      cases e
      have hlt : (i / 6 % ((x :: r).length : Int)).toNat < (x :: r).length := by
        have h1 := Int.emod_nonneg (i / 6) (show ((x :: r).length : Int) ≠ 0 by simp only [List.length_cons]; omega)
        have h2 := Int.emod_lt_of_pos (i / 6) (show (0 : Int) < ((x :: r).length : Int) by simp only [List.length_cons]; omega)
        omega
      have c1 := cutD_len (x :: r) none (some (i / 6 % ((x :: r).length : Int)))
      have c2 := cutD_len (x :: r) (some (i / 6 % ((x :: r).length : Int) + 1)) none
      have hb := drawn_b i ((k + 1 : Nat) : Int)
      refine okD_tup ?_ fun d hd => ?_
      · simp only [partsD, List.length_append, List.length_cons, List.length_nil] at c1 c2 hl ⊢
        omega
      · rcases List.mem_append.mp hd with hd | hd
        · rcases List.mem_append.mp hd with hd | hd
          · exact okS_ok _ d (hm d (cutD_mem hd))
          · rw [List.mem_singleton.mp hd]
            exact ok_spoilt k (hm _ (getD_mem _ _ _ hlt)) _ (by omega)
        · exact okS_ok _ d (hm d (cutD_mem hd))
    · exact ok_leaf h i hi
theorem okS_succ : ∀ (n : Nat) (d : D), okS n d → okS (n + 1) d
  | n, .none, _ => by cases n <;> trivial
  | n, .bool _, _ => by cases n <;> trivial
  | n, .int _, _ => by cases n <;> trivial
  | n, .str s, h => by cases n <;> simpa [okS] using h
  | 0, .tuple ds, h => by simp [okS] at h
  | n + 1, .tuple ds, h => by
    simp only [okS] at h ⊢
    exact ⟨h.1, fun d hd => okS_succ n d (h.2 d hd)⟩
  | n, .list _, h => by cases n <;> simp [okS] at h
  | n, .dict _, h => by cases n <;> simp [okS] at h
theorem okS_le {n m : Nat} {d : D} (h : okS n d) (hm : n ≤ m) : okS m d := by
  induction m with
  | zero => cases Nat.le_zero.mp hm; exact h
  | succ m ih =>
    by_cases e : n = m + 1
    · subst e; exact h
    · exact okS_succ m d (ih (by omega))
theorem spoilt_full {k : Nat} {x : D} {r : List D} {n : Int} (h : 0 < n % 6) : spoilt (k + 1) (.tuple (x :: r)) n = .tuple (cutD (x :: r) none (some (n / 6 % ((x :: r).length : Int))) ++ [spoilt k ((x :: r).getD (n / 6 % ((x :: r).length : Int)).toNat .none) (drawn n ((k + 1 : Nat) : Int) / 4)] ++ cutD (x :: r) (some (n / 6 % ((x :: r).length : Int) + 1)) none) := by
  show (if isFull (.tuple (x :: r)) = true ∧ 0 < n % 6 then _ else _) = _
  rw [if_pos ⟨rfl, h⟩]; rfl
theorem okS_str {n : Nat} {s : Str} (h1 : PyData.strOk s = true) (h2 : s.length ≤ 100) : okS n (.str s) := by cases n <;> exact ⟨h1, h2⟩
theorem okS_int {n : Nat} {i : Int} : okS n (.int i) := by cases n <;> trivial
theorem strOk_key (i : Int) (h : i < 1000) : PyData.strOk (keyN i) = true := by
  unfold PyData.strOk keyN
  simp
  omega
theorem okS_key {n : Nat} (i : Int) (h : i < 1000) : okS n (.str (keyN i)) := okS_str (strOk_key i h) (one_len _ 99)
theorem okS_book (n : Int) : okS 2 (dBook (lawBook n)) := by
  unfold dBook
  refine okS_tup ?_ fun d hd => ?_
  · rw [List.length_map]
    have := List.length_filterMap_le (bookAt n) (List.range 4)
    rw [List.length_range] at this
    exact Nat.le_trans this (by decide)
  · obtain ⟨p, hp, rfl⟩ := List.mem_map.mp hd
    obtain ⟨k, hk, e⟩ := List.mem_filterMap.mp hp
    rw [List.mem_range] at hk
    unfold bookAt at e
    split at e
    · cases e
      refine okS_tup (Nat.le_of_ble_eq_true rfl) fun d hd => ?_
      simp only [List.mem_cons, List.not_mem_nil, or_false] at hd
      rcases hd with rfl | rfl
      · exact okS_key _ (by omega)
      · exact okS_int
    · cases e
theorem okS_change (n many : Int) (h1 : 1 ≤ many) (h2 : many ≤ 4) : okS 2 (dChg (lawChange n many)) := by
  have pm : (0 : Int) < many := by omega
  have k2 : n / 8 % many < 1000 := by have := Int.emod_lt_of_pos (n / 8) pm; omega
  have o2 : n / 64 % many < 1000 := by have := Int.emod_lt_of_pos (n / 64) pm; omega
  have w : ∀ s : Str, (PyData.strOk s && decide (s.length ≤ 100)) = true → ∀ n, okS n (.str s) := fun s h n => by
    rw [Bool.and_eq_true] at h
    exact okS_str h.1 (of_decide_eq_true h.2)
  have w1 := w "put" (by decide +kernel)
  have w2 := w "add" (by decide +kernel)
  have w3 := w "keep" (by decide +kernel)
  have w4 := w "drop" (by decide +kernel)
  have w5 := w "move" (by decide +kernel)
  unfold lawChange
  split
  · refine okS_tup (Nat.le_of_ble_eq_true rfl) fun d hd => ?_
    simp only [List.mem_cons, List.not_mem_nil, or_false] at hd
    rcases hd with rfl | rfl | rfl
    · exact w5 _
    · exact okS_key _ k2
    · exact okS_key _ o2
  · split
    · refine okS_tup (Nat.le_of_ble_eq_true rfl) fun d hd => ?_
      simp only [List.mem_cons, List.not_mem_nil, or_false] at hd
      rcases hd with rfl | rfl
      · exact w4 _
      · exact okS_key _ k2
    · split
      · refine okS_tup (Nat.le_of_ble_eq_true rfl) fun d hd => ?_
        simp only [List.mem_cons, List.not_mem_nil, or_false] at hd
        rcases hd with rfl | rfl | rfl
        · exact w1 _
        · exact okS_key _ k2
        · exact okS_int
      · split
        · refine okS_tup (Nat.le_of_ble_eq_true rfl) fun d hd => ?_
          simp only [List.mem_cons, List.not_mem_nil, or_false] at hd
          rcases hd with rfl | rfl | rfl
          · exact w2 _
          · exact okS_key _ k2
          · exact okS_int
        · refine okS_tup (Nat.le_of_ble_eq_true rfl) fun d hd => ?_
          simp only [List.mem_cons, List.not_mem_nil, or_false] at hd
          rcases hd with rfl | rfl | rfl
          · exact w3 _
          · exact okS_key _ k2
          · exact okS_int
theorem ok_spoilt' {k : Nat} {t : D} (hk : k ≤ 2) (h : okS 2 t) (i : Int) (hi : 0 ≤ i) : okD 5 (spoilt k t i) := by
  have := ok_spoilt k (n := 4 - k) (t := t) (okS_le h (by omega)) i hi
  rw [show 4 - k + k + 1 = 5 by omega] at this
  exact this
theorem long_is (i : Int) (h0 : 0 ≤ i) (h1 : i < 3) : ∃ lg : Str, cutS "abcdef" none (some (3 + i)) = lg ∧ PyData.strOk lg = true ∧ lg.length ≤ 100 := by
  have : i = 0 ∨ i = 1 ∨ i = 2 := by omega
  rcases this with rfl | rfl | rfl
  · exact ⟨_, rfl, by decide +kernel, by decide +kernel⟩
  · exact ⟨_, rfl, by decide +kernel, by decide +kernel⟩
  · exact ⟨_, rfl, by decide +kernel, by decide +kernel⟩
end AB

namespace AB
open PySem L2
def topS (i : Nat) : Stmt := PySem.Challenge.pw_awaybook_k01_books_and_changes.main.body.getD i (.Pass ⟨0, 0, 0, 0⟩)
abbrev S_is_key : Stmt := topS 5
abbrev S_is_worth : Stmt := topS 6
abbrev S_is_pair : Stmt := topS 7
abbrev S_is_book : Stmt := topS 8
abbrev S_is_change : Stmt := topS 9
abbrev S_law_cell_at : Stmt := topS 11
abbrev S_law_mixed : Stmt := topS 12
abbrev S_law_drawn : Stmt := topS 13
abbrev S_law_change : Stmt := topS 14
abbrev S_law_row : Stmt := topS 15
abbrev S_law_book : Stmt := topS 16
abbrev S_law_is_key : Stmt := topS 17
abbrev S_law_is_worth : Stmt := topS 18
abbrev S_law_is_book : Stmt := topS 19
abbrev S_law_is_change : Stmt := topS 20
abbrev S_law_spoilt : Stmt := topS 21
abbrev S_law : Stmt := topS 22
section
variable {P : Program} {w : World} {K : Fg} {mg : Str → Option Value} {base : Heap}
theorem sc_is_key : FnScope ["thing", "sign"] ["thing"] (defScope S_is_key) := ⟨rfl, rfl, rfl, by decide +kernel, rfl, by decide +kernel, by decide +kernel⟩
theorem ok_is_key (h : Dfn K mg "is_key" S_is_key ["thing"]) (B : Bt mg) (gL : GS mg "LETTERS" letters) (g4 : GI mg "LONGEST" 4) : DefD P w K mg base 1 "is_key" ["thing"] (FB1 isKeyD) := by
  refine def_okD h sc_is_key (fun ds d ⟨t, n, e, _⟩ => by rw [e]; rfl) fun f cdv A outer s H E ds d hr hF => ?_
  obtain ⟨t, n, rfl, ht, hn, rfl⟩ := hF
  refine dss_one (ds_ret (d := .bool (isKeyD t)) ?_ rfl)
  cases t with
  | str z =>
    have hz := len_ok ht
    refine PD.eq (pd_and (pd_isStr B (pdv 0)) (fun _ => pd_and (pd_chain op_le op_le rd_B (fun _ => rd_B) pd_int (pd_lenS (by rfl) B.len (pdv 0) hz) (pd_gi g4 (by rfl))) (fun _ => pd_one (pd_all (bs := z.cps.toList.map lowC) rfl (by rfl) B.all (PD.eq (pd_lc (own := [("sign", 1)]) (signF fun c => some (.bool (lowC c))) rfl sc_is_key.nd (blkOk_by (N := ["thing", "sign"]) (sc := defScope S_is_key) (by decide +kernel)) (pid_str (pdv 0)) (by rw [signs_len]; have := (okD_str ht).2; omega) (fun d hd => ?_)) ?_))))) ?_
    · obtain ⟨c, rfl⟩ := mem_signs hd
      refine ⟨_, [1], by simp, fun s H C cl fp => ⟨pgd_name 1 sc_is_key.nd, ptsd_nil, fun y hy => ?_⟩⟩
      cases hy
      rw [← low_letters]
      exact pd_inSign (pdv 1) (pd_gs gL (by rfl))
    · congr 1
      rw [fm_signF, fm_some, List.map_map]; rfl
    · unfold isKeyD isKeyS
      rw [List.all_map]; rfl
  | none => exact PD.eq (pd_and (v := false) (pd_isStr B (pdv 0)) (fun h => by cases h)) rfl
  | bool b => exact PD.eq (pd_and (v := false) (pd_isStr B (pdv 0)) (fun h => by cases h)) rfl
  | int i => exact PD.eq (pd_and (v := false) (pd_isStr B (pdv 0)) (fun h => by cases h)) rfl
  | list l => exact PD.eq (pd_and (v := false) (pd_isStr B (pdv 0)) (fun h => by cases h)) rfl
  | tuple l => exact PD.eq (pd_and (v := false) (pd_isStr B (pdv 0)) (fun h => by cases h)) rfl
  | dict l => exact PD.eq (pd_and (v := false) (pd_isStr B (pdv 0)) (fun h => by cases h)) rfl
theorem sc_is_worth : FnScope ["thing"] ["thing"] (defScope S_is_worth) := ⟨rfl, rfl, rfl, by decide +kernel, rfl, by decide +kernel, by decide +kernel⟩
theorem ok_is_worth (h : Dfn K mg "is_worth" S_is_worth ["thing"]) (B : Bt mg) (gR : GI mg "RING" 1000) : DefD P w K mg base 1 "is_worth" ["thing"] (FB1 isWorthD) := by
  refine def_okD h sc_is_worth (fun ds d ⟨t, n, e, _⟩ => by rw [e]; rfl) fun f cdv A outer s H E ds d hr hF => ?_
  obtain ⟨t, n, rfl, ht, hn, rfl⟩ := hF
  refine dss_one (ds_ret (d := .bool (isWorthD t)) ?_ rfl)
  cases t with
  | int i =>
    refine PD.eq (pd_and (pd_isInt B (pdv 0)) (fun _ => pd_and (pd_not (pd_isBool B (pdv 0))) (fun _ => pd_one (pd_chain op_le op_lt rd_B (fun _ => rd_B) pd_int (pdv 0) (pd_gi gR (by rfl)))))) ?_
    rfl
  | bool b => exact PD.eq (pd_and (pd_isInt B (pdv 0)) (fun _ => pd_and (v := false) (pd_not (pd_isBool B (pdv 0))) (fun h => by cases h))) rfl
  | str z => exact PD.eq (pd_and (v := false) (pd_isInt B (pdv 0)) (fun h => by cases h)) rfl
  | none => exact PD.eq (pd_and (v := false) (pd_isInt B (pdv 0)) (fun h => by cases h)) rfl
  | list l => exact PD.eq (pd_and (v := false) (pd_isInt B (pdv 0)) (fun h => by cases h)) rfl
  | tuple l => exact PD.eq (pd_and (v := false) (pd_isInt B (pdv 0)) (fun h => by cases h)) rfl
  | dict l => exact PD.eq (pd_and (v := false) (pd_isInt B (pdv 0)) (fun h => by cases h)) rfl
theorem sc_is_pair : FnScope ["thing"] ["thing"] (defScope S_is_pair) := ⟨rfl, rfl, rfl, by decide +kernel, rfl, by decide +kernel, by decide +kernel⟩
theorem ok_is_pair (h : Dfn K mg "is_pair" S_is_pair ["thing"]) (B : Bt mg) (hk : DefD P w K mg base 1 "is_key" ["thing"] (FB1 isKeyD)) (hw : DefD P w K mg base 1 "is_worth" ["thing"] (FB1 isWorthD)) : DefD P w K mg base 2 "is_pair" ["thing"] (FB1 isPairD) := by
  refine def_okD h sc_is_pair (fun ds d ⟨t, n, e, _⟩ => by rw [e]; rfl) fun f cdv A outer s H E ds d hr hF => ?_
  obtain ⟨t, n, rfl, ht, hn, rfl⟩ := hF
  refine dss_one (ds_ret (d := .bool (isPairD t)) ?_ rfl)
  cases t with
  | tuple l =>
    obtain ⟨hl, m, rfl, hm⟩ := okD_tup' ht
    by_cases h2 : ∃ a b, l = [a, b]
    · obtain ⟨a, b, rfl⟩ := h2
      exact PD.eq (pd_and (pd_isTup B (pdv 0)) (fun _ => pd_and (pd_eqI (pd_lenT (by rfl) B.len (pdv 0)) pd_int) (fun _ => pd_and (pd_call hk hr (by rfl) (pds_cons (pd_ixT (pdv 0) pd_int (atI_0 a [b])) pds_nil) ⟨a, m, rfl, hm a (by simp), by omega, rfl⟩) (fun _ => pd_one (pd_call hw hr (by rfl) (pds_cons (pd_ixT (pdv 0) pd_int (atI_1 a b [])) pds_nil) ⟨b, m, rfl, hm b (by simp), by omega, rfl⟩))))) rfl
    · have e : isPairD (.tuple l) = false := by
        unfold isPairD
        split
        · rename_i a b q; cases q; exact absurd ⟨a, b, rfl⟩ h2
        · rfl
      have ne : ¬ ((l.length : Int) = 2) := fun q => h2 (by
        have q : l.length = 2 := by omega
        match l, q with
        | [a, b], _ => exact ⟨a, b, rfl⟩)
      rw [e]
      refine PD.eq (pd_and (pd_isTup B (pdv 0)) (fun _ => pd_and (v := false) (pd_eqI (pd_lenT (by rfl) B.len (pdv 0)) pd_int) (fun q => absurd (of_decide_eq_true q) ne))) ?_
      simp
  | int i => exact PD.eq (pd_and (v := false) (pd_isTup B (pdv 0)) (fun h => by cases h)) rfl
  | bool b => exact PD.eq (pd_and (v := false) (pd_isTup B (pdv 0)) (fun h => by cases h)) rfl
  | str z => exact PD.eq (pd_and (v := false) (pd_isTup B (pdv 0)) (fun h => by cases h)) rfl
  | none => exact PD.eq (pd_and (v := false) (pd_isTup B (pdv 0)) (fun h => by cases h)) rfl
  | list l => exact PD.eq (pd_and (v := false) (pd_isTup B (pdv 0)) (fun h => by cases h)) rfl
  | dict l => exact PD.eq (pd_and (v := false) (pd_isTup B (pdv 0)) (fun h => by cases h)) rfl
theorem sc_is_book : FnScope ["thing", "part", "one", "other"] ["thing"] (defScope S_is_book) := ⟨rfl, rfl, rfl, by decide +kernel, rfl, by decide +kernel, by decide +kernel⟩
theorem ok_is_book (h : Dfn K mg "is_book" S_is_book ["thing"]) (B : Bt mg) (hp : DefD P w K mg base 2 "is_pair" ["thing"] (FB1 isPairD)) : DefD P w K mg base 3 "is_book" ["thing"] (FB1 isBookD) := by
  refine def_okD h sc_is_book (fun ds d ⟨t, n, e, _⟩ => by rw [e]; rfl) fun f cdv A outer s H E ds d hr hF => ?_
  obtain ⟨t, n, rfl, ht, hn, rfl⟩ := hF
  by_cases hT : ∃ l, t = .tuple l
  · obtain ⟨l, rfl⟩ := hT
    obtain ⟨hl, m, rfl, hm⟩ := okD_tup' ht
    refine dss_cons (ds_if (b := !(l.all isPairD)) (PTD.eq (PWD.pt (pwd_or (ptd_not (ptd_val (pd_isTup B (pdv 0)))) (fun _ => pwd_or1 (ptd_not (ptd_val (pd_all (bs := l.map isPairD) rfl (by rfl) B.all (PD.eq (pd_lc (own := [("part", 1)]) (fun d => some (.bool (isPairD d))) rfl sc_is_book.nd (blkOk_by (N := ["thing", "part", "one", "other"]) (sc := defScope S_is_book) (by decide +kernel)) (pid_tup (pdv 0)) (by omega) (fun d hd => ?_)) ?_))))))) ?_) (fun hb => ?_) (fun hb => ?_))
    · refine ⟨_, [1], by simp, fun s H C cl fp => ⟨pgd_name 1 sc_is_book.nd, ptsd_nil, fun y hy => ?_⟩⟩
      cases hy
      exact pd_call hp hr (by rfl) (pds_cons (pdv 1) pds_nil) ⟨d, m, rfl, hm d hd, by omega, rfl⟩
    · congr 1
      rw [fm_some, List.map_map]; rfl
    · rw [List.all_map]; rfl
    · have hb : l.all isPairD = false := by simpa using hb
      refine dss_one (ds_ret pd_bl ?_)
      show Sl.d (.bool false) = Sl.d (.bool (l.all isPairD && risingD l))
      rw [hb]; rfl
    · have hb : l.all isPairD = true := by simpa using hb
      have hpr : ∀ d ∈ l, ∃ k w, d = .tuple [.str k, .int w] := fun d hd => by
        have q := List.all_eq_true.mp hb d hd
        exact pair_form q
      refine dss_nil (dss_one (ds_ret (d := .bool (isBookD (.tuple l))) (PD.eq (pd_all (bs := (zipD (cutD l none (some (-1))) (cutD l (some 1) none)).map pairLt) rfl (by rfl) B.all (PD.eq (pd_lc (own := [("one", 2), ("other", 3)]) (fun d => some (.bool (pairLt d))) rfl sc_is_book.nd (blkOk_by (N := ["thing", "part", "one", "other"]) (sc := defScope S_is_book) (by decide +kernel)) (pid_zipT (by rfl) B.zip (pd_slT (pdv 0) pod_none (pod_some (pd_neg pd_int))) (pd_slT (pdv 0) (pod_some pd_int) pod_none)) ?_ (fun d hd => ?_)) ?_)) ?_) rfl))
      · rw [zipD_len]
        have := cutD_len l none (some (-1))
        omega
      · obtain ⟨i, hi⟩ := List.getElem?_of_mem hd
        obtain ⟨x, y, e1, e2, rfl⟩ := zipD_get hi
        obtain ⟨k1, w1, rfl⟩ := hpr x (cutD_mem (List.mem_of_getElem? e1))
        obtain ⟨k2, w2, rfl⟩ := hpr y (cutD_mem (List.mem_of_getElem? e2))
        refine ⟨_, [2] ++ ([3] ++ []), by simp, fun s H C cl fp => ⟨pgd_tup (n := 2) rfl (pgds_cons (pgd_name 2 sc_is_book.nd) (pgds_cons (pgd_name 3 sc_is_book.nd) pgds_nil)), ptsd_nil, fun z hz => ?_⟩⟩
        cases hz
        exact pd_cmp op_lt_str rd_ltS (pd_ixT (pdv 2) pd_int (atI_0 _ _)) (pd_ixT (pdv 3) pd_int (atI_0 _ _))
      · congr 1
        rw [fm_some, List.map_map]; rfl
      · show PyData.bool _ = PyData.bool (l.all isPairD && risingD l)
        rw [hb, List.all_map, Bool.true_and]
        congr 1
        exact rising_zip l
  · refine dss_cons (ds_if (b := true) (PTD.eq (PWD.pt (pwd_or (v := false) (ptd_not (ptd_val (pd_isTup B (pdv 0)))) (fun q => ?_))) ?_) (fun _ => dss_one (ds_ret pd_bl ?_)) (fun hb => nomatch hb))
    · cases t <;> first | exact absurd ⟨_, rfl⟩ hT | cases q
    · cases t <;> first | exact absurd ⟨_, rfl⟩ hT | rfl
    · cases t <;> first | exact absurd ⟨_, rfl⟩ hT | rfl
theorem sc_is_change : FnScope ["thing"] ["thing"] (defScope S_is_change) := ⟨rfl, rfl, rfl, by decide +kernel, rfl, by decide +kernel, by decide +kernel⟩
theorem ok_is_change (h : Dfn K mg "is_change" S_is_change ["thing"]) (B : Bt mg) (gW : GT K mg "WITH_WORTH" [.str "put", .str "add", .str "keep"]) (hk : DefD P w K mg base 1 "is_key" ["thing"] (FB1 isKeyD)) (hw : DefD P w K mg base 1 "is_worth" ["thing"] (FB1 isWorthD)) : DefD P w K mg base 2 "is_change" ["thing"] (FB1 isChangeD) := by
  refine def_okD h sc_is_change (fun ds d ⟨t, n, e, _⟩ => by rw [e]; rfl) fun f cdv A outer s H E ds d hr hF => ?_
  obtain ⟨t, n, rfl, ht, hn, rfl⟩ := hF
  by_cases hT : ∃ l, t = .tuple l
  · obtain ⟨l, rfl⟩ := hT
    obtain ⟨hl, m, rfl, hm⟩ := okD_tup' ht
    by_cases hs : (l.length : Int) < 2
    · refine dss_cons (ds_if (b := true) (PTD.eq (PWD.pt (pwd_or (ptd_not (ptd_val (pd_isTup B (pdv 0)))) (fun _ => pwd_or (v := false) (ptd_lt (pd_lenT (by rfl) B.len (pdv 0)) pd_int) (fun q => absurd hs (of_decide_eq_false q))))) (by rw [decide_eq_true hs]; rfl)) (fun _ => dss_one (ds_ret pd_bl ?_)) (fun hb => nomatch hb))
      show Sl.d (.bool false) = Sl.d (.bool (isChangeD (.tuple l)))
      rw [change_short hs]
    · obtain ⟨x, y, r, rfl⟩ : ∃ x y r, l = x :: y :: r := by
        match l, hs with
        | [], hs => exact absurd (by decide) hs
        | [_], hs => exact absurd (show ((1 : Nat) : Int) < 2 by decide) hs
        | x :: y :: r, _ => exact ⟨x, y, r, rfl⟩
      have hx := hm x (by simp)
      have hy := hm y (by simp)
      refine dss_cons (ds_if (b := !(isStrD x && isKeyD y)) (PTD.eq (PWD.pt (pwd_or (ptd_not (ptd_val (pd_isTup B (pdv 0)))) (fun _ => pwd_or (ptd_lt (pd_lenT (by rfl) B.len (pdv 0)) pd_int) (fun _ => pwd_or (ptd_not (ptd_val (pd_isStr B (pd_ixT (pdv 0) pd_int (atI_0 x _))))) (fun _ => pwd_or1 (ptd_not (ptd_val (pd_call hk hr (by rfl) (pds_cons (pd_ixT (pdv 0) pd_int (atI_1 x y r)) pds_nil) ⟨y, m, rfl, hy, by omega, rfl⟩)))))))) ?_) (fun hb => ?_) (fun hb => ?_))
      · rw [decide_eq_false hs]
        cases isStrD x <;> cases isKeyD y <;> rfl
      · refine dss_one (ds_ret pd_bl ?_)
        show Sl.d (.bool false) = Sl.d (.bool (isChangeD (.tuple (x :: y :: r))))
        cases q1 : isStrD x with
        | false => rw [change_word q1]
        | true =>
          have q2 : isKeyD y = false := by rw [q1] at hb; simpa using hb
          rw [change_key q2]
      · have q1 : isStrD x = true := by cases q : isStrD x <;> rw [q] at hb <;> simp at hb <;> rfl
        have q2 : isKeyD y = true := by rw [q1] at hb; simpa using hb
        obtain ⟨w, rfl⟩ : ∃ w, x = .str w := by
          cases x <;> first | exact ⟨_, rfl⟩ | cases q1
        refine dss_nil (dss_cons (ds_if (ptd_eqS (pd_ixT (pdv 0) pd_int (atI_0 _ _)) pd_str) (fun hd => ?_) (fun hd => ?_)))
        · have hd := of_decide_eq_true hd
          refine dss_one (ds_ret (pd_eqI (pd_lenT (by rfl) B.len (pdv 0)) pd_int) ?_)
          show Sl.d (.bool (decide (((_ :: _ :: r).length : Int) = 2))) = Sl.d (.bool (isChangeD (.tuple (.str w :: y :: r))))
          match r with
          | [] => rw [change_two _ _ q2, decide_eq_true hd]; rfl
          | [z] =>
            subst hd
            rw [change_three _ _ _ q2]; rfl
          | z :: z' :: r =>
            rw [change_more _ _ _ (by simp only [List.length_cons]; omega) (by simp only [List.length_cons]; omega), decide_eq_false (by simp only [List.length_cons]; omega)]
        · have hd := of_decide_eq_false hd
          refine dss_nil (dss_cons (ds_if (ptd_neI (pd_lenT (by rfl) B.len (pdv 0)) pd_int) (fun h3 => ?_) (fun h3 => ?_)))
          · refine dss_one (ds_ret pd_bl ?_)
            show Sl.d (.bool false) = Sl.d (.bool (isChangeD (.tuple (.str w :: y :: r))))
            match r with
            | [] => rw [change_two _ _ q2, decide_eq_false hd]
            | [z] => exact absurd h3 (by simp)
            | z :: z' :: r => rw [change_more _ _ _ (by simp only [List.length_cons]; omega) (by simp only [List.length_cons]; omega)]
          · obtain ⟨z, rfl⟩ : ∃ z, r = [z] := by
              match r with
              | [] => simp at h3
              | [z] => exact ⟨z, rfl⟩
              | z :: z' :: r => simp at h3; omega
            have hz := hm z (by simp)
            refine dss_nil (dss_cons (ds_if (ptd_eqS (pd_ixT (pdv 0) pd_int (atI_0 _ _)) pd_str) (fun he => ?_) (fun he => ?_)))
            · have he := of_decide_eq_true he
              subst he
              refine dss_one (ds_ret (pd_call hk hr (by rfl) (pds_cons (pd_ixT (pdv 0) pd_int (atI_2 _ _ z _)) pds_nil) ⟨z, m, rfl, hz, by omega, rfl⟩) ?_)
              show Sl.d (.bool (isKeyD z)) = Sl.d (.bool (isChangeD (.tuple [.str "move", y, z])))
              rw [change_three _ _ _ q2]
              rw [show (decide (("move" : Str) = "put") || decide (("move" : Str) = "add") || decide (("move" : Str) = "keep")) = false by decide +kernel]
              simp
            · have he := of_decide_eq_false he
              refine dss_nil (dss_one (ds_ret (pd_and (pd_inStrs (ts := ["put", "add", "keep"]) (pd_ixT (pdv 0) pd_int (atI_0 _ _)) (pd_gt gW (by rfl))) (fun _ => pd_one (pd_call hw hr (by rfl) (pds_cons (pd_ixT (pdv 0) pd_int (atI_2 _ _ z _)) pds_nil) ⟨z, m, rfl, hz, by omega, rfl⟩))) ?_))
              show Sl.d (.bool (decide (w ∈ (["put", "add", "keep"] : List Str)) && isWorthD z)) = Sl.d (.bool (isChangeD (.tuple [.str w, y, z])))
              rw [change_three _ _ _ q2, decide_eq_false he]
              simp [Bool.or_assoc]
  · refine dss_cons (ds_if (b := true) (PTD.eq (PWD.pt (pwd_or (v := false) (ptd_not (ptd_val (pd_isTup B (pdv 0)))) (fun q => ?_))) ?_) (fun _ => dss_one (ds_ret pd_bl ?_)) (fun hb => nomatch hb))
    · cases t <;> first | exact absurd ⟨_, rfl⟩ hT | cases q
    · cases t <;> first | exact absurd ⟨_, rfl⟩ hT | rfl
    · cases t <;> first | exact absurd ⟨_, rfl⟩ hT | rfl
theorem sc_law_cell_at : FnScope ["script", "k"] ["script", "k"] (defScope S_law_cell_at) := ⟨rfl, rfl, rfl, by decide +kernel, rfl, by decide +kernel, by decide +kernel⟩
theorem ok_law_cell_at (h : Dfn K mg "_law_cell_at" S_law_cell_at ["script", "k"]) (B : Bt mg) : DefD P w K mg base 1 "_law_cell_at" ["script", "k"] FCell := by
  refine def_okD h sc_law_cell_at (fun ds d ⟨ns, k, e, _⟩ => by rw [e]; rfl) fun f cdv A outer s H E ds d hr hF => ?_
  obtain ⟨ns, k, rfl, hk, rfl⟩ := hF
  refine dss_cons (ds_if (ptd_lt (pdv 1) (pd_lenL (by rfl) B.len (pdv 0))) (fun hb => ?_) (fun hb => ?_))
  · have hb := of_decide_eq_true hb
    rw [List.length_map] at hb
    have hlt : k.toNat < ns.length := by omega
    refine dss_one (ds_ret (pd_ixL (pdv 0) (pdv 1) (d := .int (cellAt ns k)) ?_) rfl)
    unfold atI ixN
    rw [List.length_map, if_pos hk, if_pos hb]
    show (ns.map PyData.int)[k.toNat]? = some _
    rw [List.getElem?_map, List.getElem?_eq_getElem hlt]
    unfold cellAt
    rw [if_pos hb, List.getD_eq_getElem?_getD, List.getElem?_eq_getElem hlt]
    rfl
  · have hb := of_decide_eq_false hb
    rw [List.length_map] at hb
    refine dss_nil (dss_one (ds_ret pd_int ?_))
    unfold cellAt
    rw [if_neg hb]
theorem sc_law_mixed : FnScope ["script", "k", "drawn"] ["script", "k"] (defScope S_law_mixed) := ⟨rfl, rfl, rfl, by decide +kernel, rfl, by decide +kernel, by decide +kernel⟩
theorem ok_law_mixed (h : Dfn K mg "_law_mixed" S_law_mixed ["script", "k"]) (hc : DefD P w K mg base 1 "_law_cell_at" ["script", "k"] FCell) : DefD P w K mg base 2 "_law_mixed" ["script", "k"] FMixed := by
  refine def_okD h sc_law_mixed (fun ds d ⟨ns, k, e, _⟩ => by rw [e]; rfl) fun f cdv A outer s H E ds d hr hF => ?_
  obtain ⟨ns, k, rfl, hk, hk2, rfl⟩ := hF
  have b := mixA_b (cellAt ns k) k
  refine dss_cons (ds_set 2 sc_law_mixed.nd (pd_mod (pd_mulR (pd_add (pd_add (pd_call hc hr (by rfl) (pds_cons (pdv 0) (pds_cons (pdv 1) pds_nil)) ⟨ns, k, rfl, hk, rfl⟩) (pd_mulL pd_int (pdv 1) (by decide))) pd_int) pd_int (by decide)) pd_int (by decide)) ?_)
  refine dss_one (ds_ret (pd_mod (pd_add (pd_add (pd_mulL (pdv 2) (pdv 2) ?_) (pd_mulL pd_int (pdv 2) (by decide))) (pdv 1)) pd_int (by decide)) rfl)
  exact ⟨by show _ < mixA _ _; omega, by show mixA _ _ < _; omega⟩
theorem sc_law_drawn : FnScope ["number", "k", "drawn"] ["number", "k"] (defScope S_law_drawn) := ⟨rfl, rfl, rfl, by decide +kernel, rfl, by decide +kernel, by decide +kernel⟩
theorem ok_law_drawn (h : Dfn K mg "_law_drawn" S_law_drawn ["number", "k"]) : DefD P w K mg base 1 "_law_drawn" ["number", "k"] FDrawn := by
  refine def_okD h sc_law_drawn (fun ds d ⟨ns, k, e, _⟩ => by rw [e]; rfl) fun f cdv A outer s H E ds d hr hF => ?_
  obtain ⟨n, k, rfl, hk, hk2, rfl⟩ := hF
  have b := drawA_b n k
  refine dss_cons (ds_set 2 sc_law_drawn.nd (pd_mod (pd_mulR (pd_add (pd_add (pdv 0) (pd_mulL pd_int (pdv 1) (by decide))) pd_int) pd_int (by decide)) pd_int (by decide)) ?_)
  refine dss_one (ds_ret (pd_mod (pd_add (pd_add (pd_mulL (pdv 2) (pdv 2) ?_) (pd_mulL pd_int (pdv 2) (by decide))) (pdv 1)) pd_int (by decide)) rfl)
  exact ⟨by show _ < drawA _ _; omega, by show drawA _ _ < _; omega⟩
theorem sc_law_change : FnScope ["number", "many", "key", "other", "worth", "kind"] ["number", "many"] (defScope S_law_change) := ⟨rfl, rfl, rfl, by decide +kernel, rfl, by decide +kernel, by decide +kernel⟩
theorem ok_law_change (h : Dfn K mg "_law_change" S_law_change ["number", "many"]) : DefD P w K mg base 1 "_law_change" ["number", "many"] FChange := by
  refine def_okD h sc_law_change (fun ds d ⟨ns, k, e, _⟩ => by rw [e]; rfl) fun f cdv A outer s H E ds d hr hF => ?_
  obtain ⟨n, many, rfl, hn, h1, h2, rfl⟩ := hF
  have pm : (0 : Int) < many := by omega
  have k1 : 0 ≤ n / 8 % many := Int.emod_nonneg _ (by omega)
  have k2 : n / 8 % many < 4 := by have := Int.emod_lt_of_pos (n / 8) pm; omega
  have o1 : 0 ≤ n / 64 % many := Int.emod_nonneg _ (by omega)
  have o2 : n / 64 % many < 4 := by have := Int.emod_lt_of_pos (n / 64) pm; omega
  refine dss_cons (ds_set 2 sc_law_change.nd (d := .str (keyN (n / 8 % many))) (pd_ixS pd_str (pd_mod (pd_div (pdv 0) pd_int (by decide)) (pdv 1) pm) abcd_len (abcd_at k1 k2)) ?_)
  refine dss_cons (ds_set 3 sc_law_change.nd (d := .str (keyN (n / 64 % many))) (pd_ixS pd_str (pd_mod (pd_div (pdv 0) pd_int (by decide)) (pdv 1) pm) abcd_len (abcd_at o1 o2)) ?_)
  refine dss_cons (ds_set 4 sc_law_change.nd (d := .int (n / 512 % wsel (n / 16 % 4))) (pd_mod (pd_div (pdv 0) pd_int (by decide)) (pd_ixT (pd_tup (pds_cons pd_int (pds_cons pd_int (pds_cons pd_int (pds_cons pd_int pds_nil))))) (pd_mod (pd_div (pdv 0) pd_int (by decide)) pd_int (by decide)) (wsel_at (by omega) (by omega))) (wsel_pos _)) ?_)
  refine dss_cons (ds_set 5 sc_law_change.nd (pd_mod (pdv 0) pd_int (by decide)) ?_)
  refine dss_cons (ds_if (ptd_eqI (pdv 5) pd_int) (fun hb => ?_) (fun hb => dss_nil ?_))
  · have hb := of_decide_eq_true hb
    refine dss_one (ds_ret (pd_tup (pds_cons pd_str (pds_cons (pdv 2) (pds_cons (pdv 3) pds_nil)))) ?_)
    unfold lawChange
    rw [if_pos hb]; rfl
  · have hb := of_decide_eq_false hb
    refine dss_cons (ds_if (ptd_eqI (pdv 5) pd_int) (fun hc => ?_) (fun hc => dss_nil ?_))
    · have hc := of_decide_eq_true hc
      refine dss_one (ds_ret (pd_tup (pds_cons pd_str (pds_cons (pdv 2) pds_nil))) ?_)
      unfold lawChange
      rw [if_neg hb, if_pos hc]; rfl
    · have hc := of_decide_eq_false hc
      have hw : ∃ c, atI [(.str "put" : D), .str "add", .str "keep"] (n % 8 % 3) = some (.str c) ∧ dChg (lawChange n many) = .tuple [.str c, .str (keyN (n / 8 % many)), .int (n / 512 % wsel (n / 16 % 4))] := by
        have h3 : n % 8 % 3 = 0 ∨ n % 8 % 3 = 1 ∨ n % 8 % 3 = 2 := by omega
        unfold lawChange
        rw [if_neg hb, if_neg hc]
        rcases h3 with e | e | e
        · exact ⟨"put", by rw [e]; rfl, by rw [if_pos e]; rfl⟩
        · exact ⟨"add", by rw [e]; rfl, by rw [if_neg (by omega), if_pos e]; rfl⟩
        · exact ⟨"keep", by rw [e]; rfl, by rw [if_neg (by omega), if_neg (by omega)]; rfl⟩
      obtain ⟨c, e1, e2⟩ := hw
      refine dss_one (ds_ret (pd_tup (pds_cons (pd_ixT (pd_tup (pds_cons pd_str (pds_cons pd_str (pds_cons pd_str pds_nil)))) (pd_mod (pdv 5) pd_int (by decide)) e1) (pds_cons (pdv 2) (pds_cons (pdv 4) pds_nil)))) ?_)
      rw [e2]
theorem sc_law_book : FnScope ["number", "found", "k", "key", "drawn"] ["number"] (defScope S_law_book) := ⟨rfl, rfl, rfl, by decide +kernel, rfl, by decide +kernel, by decide +kernel⟩
theorem ok_law_book (h : Dfn K mg "_law_book" S_law_book ["number"]) (B : Bt mg) (hd : DefD P w K mg base 1 "_law_drawn" ["number", "k"] FDrawn) : DefD P w K mg base 2 "_law_book" ["number"] FBook := by
  refine def_okD h sc_law_book (fun ds d ⟨ns, e, _⟩ => by rw [e]; rfl) fun f cdv A outer s H E ds d hr hF => ?_
  obtain ⟨n, rfl, rfl⟩ := hF
  refine dss_cons (ds_set 1 sc_law_book.nd (pd_tup pds_nil) ?_)
  refine dss_cons (ds_for (fun i ρ M => M = m0 ∧ ∃ s2 s3 s4, ρ = [.d (.int n), .d (dBook ((List.range i).filterMap (bookAt n))), s2, s3, s4]) PassesOwn.never rfl (pid_enumS (by rfl) B.enumerate pd_str) ⟨rfl, .u, .u, .u, rfl⟩ ?_ ?_)
  · rintro i d ρ M hi ⟨rfl, s2, s3, s4, rfl⟩
    obtain ⟨x, hx, rfl⟩ := enumD_get hi
    rw [abcd_signs] at hx
    have hi4 : i < 4 := (List.getElem?_eq_some_iff.mp hx).1
    have ex : x = .str (keyN (i : Nat)) := by
      have : i = 0 ∨ i = 1 ∨ i = 2 ∨ i = 3 := by omega
      rcases this with rfl | rfl | rfl | rfl <;> exact (Option.some.inj hx).symm
    subst ex
    refine ⟨_, _, pgd_tup (n := 2) rfl (pgds_cons (pgd_name 2 sc_law_book.nd) (pgds_cons (pgd_name 3 sc_law_book.nd) pgds_nil)), ?_⟩
    refine dss_cons (ds_set 4 sc_law_book.nd (pd_div (pd_call hd hr (by rfl) (pds_cons (pdv 0) (pds_cons (pd_add pd_int (pdv 2)) pds_nil)) ⟨n, 60 + (i : Nat), rfl, by omega, by omega, rfl⟩) pd_int (by decide)) ?_)
    refine dss_one (ds_if (ptd_gt (pd_mod (pdv 4) pd_int (by decide)) pd_int) (fun hb => ?_) (fun hb => ?_))
    · have hb := of_decide_eq_true hb
      have hz : ((List.range i).filterMap (bookAt n)).length ≤ i := by
        have := List.length_filterMap_le (bookAt n) (List.range i)
        rwa [List.length_range] at this
      have ht : ∃ t, atI [(.int 1000 : D), .int 3] (drawn n (60 + (i : Nat)) / 4 / 16 % 2) = some (.int t) ∧ t = (if drawn n (60 + (i : Nat)) / 4 / 16 % 2 = 0 then 1000 else 3) := by
        have : drawn n (60 + (i : Nat)) / 4 / 16 % 2 = 0 ∨ drawn n (60 + (i : Nat)) / 4 / 16 % 2 = 1 := by omega
        rcases this with e | e
        · rw [e]; exact ⟨1000, rfl, rfl⟩
        · rw [e]; exact ⟨3, rfl, rfl⟩
      obtain ⟨t, e1, e2⟩ := ht
      have tp : 0 < t := by rw [e2]; split <;> decide
      refine dss_one (ds_set 1 sc_law_book.nd (pd_catT (pdv 1) (pd_tup (pds_cons (pd_tup (pds_cons (pdv 3) (pds_cons (pd_mod (pd_div (pdv 4) pd_int (by decide)) (pd_ixT (pd_tup (pds_cons pd_int (pds_cons pd_int pds_nil))) (pd_mod (pd_div (pdv 4) pd_int (by decide)) pd_int (by decide)) e1) tp) pds_nil))) pds_nil)) ?_) ?_)
      · have : sizeLine = 16777216 := rfl
        simp only [List.length_map, List.length_cons, List.length_nil]
        omega
      · refine ⟨rfl, .d (.int (i : Nat)), .d (.str (keyN (i : Nat))), .d (.int (drawn n (60 + (i : Nat)) / 4)), ?_⟩
        have e : dBook ((List.range (i + 1)).filterMap (bookAt n)) = .tuple (((List.range i).filterMap (bookAt n)).map dPair ++ [.tuple [.str (keyN (i : Nat)), .int (drawn n (60 + (i : Nat)) / 4 / 4 % t)]]) := by
          unfold dBook
          rw [List.range_succ, List.filterMap_append, List.map_append]
          congr 2
          show List.map dPair (List.filterMap (bookAt n) [i]) = _
          have : bookAt n i = some (keyN (i : Nat), drawn n (60 + (i : Nat)) / 4 / 4 % t) := by
            unfold bookAt
            rw [if_pos hb, e2]
          rw [List.filterMap_cons, this]; rfl
        rw [e]; rfl
    · have hb := of_decide_eq_false hb
      refine dss_nil ⟨rfl, .d (.int (i : Nat)), .d (.str (keyN (i : Nat))), .d (.int (drawn n (60 + (i : Nat)) / 4)), ?_⟩
      have e : (List.range (i + 1)).filterMap (bookAt n) = (List.range i).filterMap (bookAt n) := by
        rw [List.range_succ, List.filterMap_append]
        have : bookAt n i = none := by
          unfold bookAt
          rw [if_neg hb]
        rw [List.filterMap_cons, this]
        simp
      rw [e]; rfl
  · rintro ρ M ⟨rfl, s2, s3, s4, rfl⟩
    rw [enumD_len, abcd_signs]
    exact dss_one (ds_ret (pdv 1) rfl)
theorem sc_law_is_key : FnScope ["thing", "sign"] ["thing"] (defScope S_law_is_key) := ⟨rfl, rfl, rfl, by decide +kernel, rfl, by decide +kernel, by decide +kernel⟩
theorem ok_law_is_key (h : Dfn K mg "_law_is_key" S_law_is_key ["thing"]) (B : Bt mg) : DefD P w K mg base 1 "_law_is_key" ["thing"] (FB1 isKeyD) := by
  refine def_okD h sc_law_is_key (fun ds d ⟨t, n, e, _⟩ => by rw [e]; rfl) fun f cdv A outer s H E ds d hr hF => ?_
  obtain ⟨t, n, rfl, ht, hn, rfl⟩ := hF
  by_cases hT : ∃ z, t = .str z
  · obtain ⟨z, rfl⟩ := hT
    have hz := len_ok ht
    refine dss_cons (ds_if (b := !(decide (1 ≤ (z.length : Int)) && decide ((z.length : Int) ≤ 4))) (PTD.eq (PWD.pt (pwd_or (ptd_not (ptd_val (pd_isStr B (pdv 0)))) (fun _ => pwd_or1 (ptd_not (ptd_chain op_le op_le rd_B (fun _ => rd_B) pd_int (pd_lenS (by rfl) B.len (pdv 0) hz) pd_int))))) rfl) (fun hb => dss_one (ds_ret pd_bl ?_)) (fun hb => dss_nil ?_))
    · show Sl.d (.bool false) = Sl.d (.bool (isKeyS z))
      have hb := not_t hb
      unfold isKeyS
      rw [hb]; rfl
    · have hb := not_f hb
      have hlen : z.length ≤ 4 := by
        rw [Bool.and_eq_true] at hb
        have := of_decide_eq_true hb.2
        omega
      refine dss_one (ds_ret (d := .bool (isKeyS z)) (PD.eq (pd_eq hr.units (PD.eq (pd_lc (own := [("sign", 1)]) (signF fun c => if lowC c then none else some (.str ⟨#[c]⟩)) rfl sc_law_is_key.nd (blkOk_by (N := ["thing", "sign"]) (sc := defScope S_law_is_key) (by decide +kernel)) (pid_str (pdv 0)) (by rw [signs_len]; omega) (fun d hd => ?_)) (fm_low z)) (pd_lst pds_nil) (shaped_ok (n := 2) (okD_lst ?_ fun d hd => ?_) (by omega)) rfl) ?_) rfl)
      · obtain ⟨c, rfl⟩ := mem_signs hd
        refine ⟨_, [1], by simp, fun s H C cl fp => ⟨pgd_name 1 sc_law_is_key.nd, ptsd_one (PTD.eq (ptd_not (ptd_chain op_le_str op_le_str rd_leS (fun _ => rd_leS) pd_str (pdv 1) pd_str)) ?_), fun y hy => ?_⟩⟩
        · show (!(!decide (([c] : List Nat) < ("a" : Str).cps.toList) && !decide (("z" : Str).cps.toList < ([c] : List Nat)))) = (if lowC c then none else some (PyData.str ⟨#[c]⟩)).isSome
          rw [low_chain]
          cases lowC c <;> rfl
        · have hy : (if lowC c then none else some (PyData.str ⟨#[c]⟩)) = some y := hy
          split at hy
          · cases hy
          · cases hy; exact pdv 1
      · rw [List.length_map]
        exact Nat.le_trans (List.length_filter_le _ _) (by rw [Array.length_toList]; exact Nat.le_trans hlen (by decide))
      · obtain ⟨c, hc, rfl⟩ := List.mem_map.mp hd
        have hc := (List.mem_filter.mp hc).1
        refine okD_str' ?_ (one_len c 999)
        have q := (okD_str ht).1
        unfold PyData.strOk at q ⊢
        rw [Array.all_eq_true_iff_forall_mem] at q
        have := q c (by simpa using hc)
        simpa using this
      · rw [eqv_nil]
        unfold isKeyS
        rw [hb, Bool.true_and, List.isEmpty_map, empty_not]
  · refine dss_cons (ds_if (b := true) (PTD.eq (PWD.pt (pwd_or (v := false) (ptd_not (ptd_val (pd_isStr B (pdv 0)))) (fun q => ?_))) ?_) (fun _ => dss_one (ds_ret pd_bl ?_)) (fun hb => nomatch hb))
    · cases t <;> first | exact absurd ⟨_, rfl⟩ hT | cases q
    · cases t <;> first | exact absurd ⟨_, rfl⟩ hT | rfl
    · cases t <;> first | exact absurd ⟨_, rfl⟩ hT | rfl
theorem sc_law_is_worth : FnScope ["thing"] ["thing"] (defScope S_law_is_worth) := ⟨rfl, rfl, rfl, by decide +kernel, rfl, by decide +kernel, by decide +kernel⟩
theorem ok_law_is_worth (h : Dfn K mg "_law_is_worth" S_law_is_worth ["thing"]) (B : Bt mg) : DefD P w K mg base 1 "_law_is_worth" ["thing"] (FB1 isWorthD) := by
  refine def_okD h sc_law_is_worth (fun ds d ⟨t, n, e, _⟩ => by rw [e]; rfl) fun f cdv A outer s H E ds d hr hF => ?_
  obtain ⟨t, n, rfl, ht, hn, rfl⟩ := hF
  refine dss_one (ds_ret (d := .bool (isWorthD t)) ?_ rfl)
  cases t with
  | int i =>
    refine PD.eq (pd_and (pd_isInt B (pdv 0)) (fun _ => pd_and (pd_not (pd_isBool B (pdv 0))) (fun _ => pd_one (pd_chain op_le op_le rd_B (fun _ => rd_B) pd_int (pdv 0) pd_int)))) ?_
    show PyData.bool (decide (0 ≤ i) && decide (i ≤ 999)) = .bool (decide (0 ≤ i) && decide (i < 1000))
    congr 2
    exact decide_eq_decide.mpr (by omega)
  | bool b => exact PD.eq (pd_and (pd_isInt B (pdv 0)) (fun _ => pd_and (v := false) (pd_not (pd_isBool B (pdv 0))) (fun h => by cases h))) rfl
  | str z => exact PD.eq (pd_and (v := false) (pd_isInt B (pdv 0)) (fun h => by cases h)) rfl
  | none => exact PD.eq (pd_and (v := false) (pd_isInt B (pdv 0)) (fun h => by cases h)) rfl
  | list l => exact PD.eq (pd_and (v := false) (pd_isInt B (pdv 0)) (fun h => by cases h)) rfl
  | tuple l => exact PD.eq (pd_and (v := false) (pd_isInt B (pdv 0)) (fun h => by cases h)) rfl
  | dict l => exact PD.eq (pd_and (v := false) (pd_isInt B (pdv 0)) (fun h => by cases h)) rfl
theorem sc_law_is_book : FnScope ["thing", "last", "part"] ["thing"] (defScope S_law_is_book) := ⟨rfl, rfl, rfl, by decide +kernel, rfl, by decide +kernel, by decide +kernel⟩
theorem ok_law_is_book (h : Dfn K mg "_law_is_book" S_law_is_book ["thing"]) (B : Bt mg) (hk : DefD P w K mg base 1 "_law_is_key" ["thing"] (FB1 isKeyD)) (hw : DefD P w K mg base 1 "_law_is_worth" ["thing"] (FB1 isWorthD)) : DefD P w K mg base 2 "_law_is_book" ["thing"] (FB1 isBookD) := by
  refine def_okD h sc_law_is_book (fun ds d ⟨t, n, e, _⟩ => by rw [e]; rfl) fun f cdv A outer s H E ds d hr hF => ?_
  obtain ⟨t, n, rfl, ht, hn, rfl⟩ := hF
  refine dss_cons (ds_set 1 sc_law_is_book.nd pd_str ?_)
  by_cases hT : ∃ l, t = .tuple l
  · obtain ⟨l, rfl⟩ := hT
    obtain ⟨hl, m, rfl, hm⟩ := okD_tup' ht
    refine dss_cons (ds_if (b := false) (PTD.eq (ptd_not (ptd_val (pd_isTup B (pdv 0)))) rfl) (fun hb => nomatch hb) (fun _ => dss_nil ?_))
    refine dss_cons (ds_for (fun i ρ M => M = m0 ∧ i ≤ l.length ∧ (∃ last s2, ρ = [.d (.tuple l), .d (.str last), s2] ∧ goodTo last (l.drop i) = goodTo "" l)) PassesOwn.never rfl (pid_tup (pdv 0)) ⟨rfl, Nat.zero_le _, "", .u, rfl, rfl⟩ ?_ ?_)
    · rintro i d ρ M hi ⟨rfl, _, last, s2, rfl, hg⟩
      have hil : i < l.length := (List.getElem?_eq_some_iff.mp hi).1
      have hdm := List.mem_of_getElem? hi
      have hdo := hm d hdm
      have hdr : l.drop i = d :: l.drop (i + 1) := by
        rw [List.drop_eq_getElem_cons hil]
        congr 1
        rw [List.getElem?_eq_getElem hil] at hi
        exact Option.some.inj hi
      rw [hdr] at hg
      refine ⟨_, [2], pgd_name 2 sc_law_is_book.nd, ?_⟩
      have fin : ∀ b, goodTo last (d :: l.drop (i + 1)) = b → isBookD (.tuple l) = b := fun b q => by rw [← q, hg]; exact (good_book l).symm
      by_cases hp : isPairD d = true
      · obtain ⟨k, x, rfl⟩ := pair_form hp
        have hp2 : isKeyD (.str k) = true ∧ isWorthD (.int x) = true := by
          have : (isKeyD (.str k) && isWorthD (.int x)) = true := hp
          rwa [Bool.and_eq_true] at this
        obtain ⟨_, m', rfl, hm'⟩ := okD_tup' hdo
        refine dss_cons (ds_if (b := false) (PTD.eq (PWD.pt (pwd_or (ptd_not (ptd_val (pd_isTup B (pdv 2)))) (fun _ => pwd_or (ptd_neI (pd_lenT (by rfl) B.len (pdv 2)) pd_int) (fun _ => pwd_or (ptd_not (ptd_val (pd_call hk hr (by rfl) (pds_cons (pd_ixT (pdv 2) pd_int (atI_0 _ _)) pds_nil) ⟨.str k, m', rfl, hm' _ (by simp), by omega, rfl⟩))) (fun _ => pwd_or1 (ptd_not (ptd_val (pd_call hw hr (by rfl) (pds_cons (pd_ixT (pdv 2) pd_int (atI_1 _ _ _)) pds_nil) ⟨.int x, m', rfl, hm' _ (by simp), by omega, rfl⟩)))))))) (by rw [hp2.1, hp2.2]; rfl)) (fun hb => nomatch hb) (fun _ => dss_nil ?_))
        refine dss_cons (ds_if (ptd_cmp op_le_str rd_leS (pd_ixT (pdv 2) pd_int (atI_0 _ _)) (pdv 1)) (fun hb => ?_) (fun hb => dss_nil ?_))
        · refine dss_one (ds_ret pd_bl ?_)
          show Sl.d (.bool false) = Sl.d (.bool (isBookD (.tuple l)))
          rw [fin false]
          show (isPairD _ && (ltS last k && _)) = false
          rw [show ltS last k = false from not_t hb]; simp
        · refine dss_one (ds_set 1 sc_law_is_book.nd (pd_ixT (pdv 2) pd_int (atI_0 _ _)) ⟨rfl, hil, k, _, rfl, ?_⟩)
          rw [← hg]
          show _ = (isPairD _ && (ltS last k && _))
          rw [hp, show ltS last k = true from not_f hb]; rfl
      · have hp : isPairD d = false := by cases q : isPairD d; rfl; exact absurd q hp
        have fin0 : isBookD (.tuple l) = false := fin false (by
          show (isPairD d && _) = false
          rw [hp]; rfl)
        refine dss_cons (ds_if (b := true) ?_ (fun _ => dss_one (ds_ret pd_bl (by
          show Sl.d (.bool false) = Sl.d (.bool (isBookD (.tuple l)))
          rw [fin0]))) (fun hb => nomatch hb))
        by_cases hT2 : ∃ r, d = .tuple r
        · obtain ⟨r, rfl⟩ := hT2
          obtain ⟨_, m', rfl, hm'⟩ := okD_tup' hdo
          by_cases h2 : ∃ a b, r = [a, b]
          · obtain ⟨a, b, rfl⟩ := h2
            have hp' : (isKeyD a && isWorthD b) = false := hp
            exact PTD.eq (PWD.pt (pwd_or (ptd_not (ptd_val (pd_isTup B (pdv 2)))) (fun _ => pwd_or (ptd_neI (pd_lenT (by rfl) B.len (pdv 2)) pd_int) (fun _ => pwd_or (ptd_not (ptd_val (pd_call hk hr (by rfl) (pds_cons (pd_ixT (pdv 2) pd_int (atI_0 _ _)) pds_nil) ⟨a, m', rfl, hm' _ (by simp), by omega, rfl⟩))) (fun _ => pwd_or1 (ptd_not (ptd_val (pd_call hw hr (by rfl) (pds_cons (pd_ixT (pdv 2) pd_int (atI_1 _ _ _)) pds_nil) ⟨b, m', rfl, hm' _ (by simp), by omega, rfl⟩)))))))) (by
              show (false || (false || (!isKeyD a || !isWorthD b))) = true
              rw [← Bool.not_and, hp']; rfl)
          · have ne : ¬ ((r.length : Int) = 2) := fun q => h2 (by
              have q : r.length = 2 := by omega
              match r, q with
              | [a, b], _ => exact ⟨a, b, rfl⟩)
            exact PTD.eq (PWD.pt (pwd_or (ptd_not (ptd_val (pd_isTup B (pdv 2)))) (fun _ => pwd_or (v := false) (ptd_neI (pd_lenT (by rfl) B.len (pdv 2)) pd_int) (fun q => absurd (of_decide_eq_true (not_f q)) ne)))) (by rw [decide_eq_false ne]; rfl)
        · refine PTD.eq (PWD.pt (pwd_or (v := false) (ptd_not (ptd_val (pd_isTup B (pdv 2)))) (fun q => ?_))) ?_
          · cases d <;> first | exact absurd ⟨_, rfl⟩ hT2 | cases q
          · cases d <;> first | exact absurd ⟨_, rfl⟩ hT2 | rfl
    · rintro ρ M ⟨rfl, _, last, s2, rfl, hg⟩
      refine dss_one (ds_ret pd_bl ?_)
      show Sl.d (.bool true) = Sl.d (.bool (isBookD (.tuple l)))
      rw [← good_book l, ← hg, List.drop_length]; rfl
  · refine dss_cons (ds_if (b := true) (PTD.eq (ptd_not (ptd_val (pd_isTup B (pdv 0)))) ?_) (fun _ => dss_one (ds_ret pd_bl ?_)) (fun hb => nomatch hb))
    · cases t <;> first | exact absurd ⟨_, rfl⟩ hT | rfl
    · cases t <;> first | exact absurd ⟨_, rfl⟩ hT | rfl
theorem sc_law_is_change : FnScope ["thing", "sizes"] ["thing"] (defScope S_law_is_change) := ⟨rfl, rfl, rfl, by decide +kernel, rfl, by decide +kernel, by decide +kernel⟩
theorem ok_law_is_change (h : Dfn K mg "_law_is_change" S_law_is_change ["thing"]) (B : Bt mg) (hk : DefD P w K mg base 1 "_law_is_key" ["thing"] (FB1 isKeyD)) (hw : DefD P w K mg base 1 "_law_is_worth" ["thing"] (FB1 isWorthD)) : DefD P w K mg base 2 "_law_is_change" ["thing"] (FB1 isChangeD) := by
  refine def_okD h sc_law_is_change (fun ds d ⟨t, n, e, _⟩ => by rw [e]; rfl) fun f cdv A outer s H E ds d hr hF => ?_
  obtain ⟨t, n, rfl, ht, hn, rfl⟩ := hF
  by_cases hT : ∃ l, t = .tuple l
  · obtain ⟨l, rfl⟩ := hT
    obtain ⟨hl, m, rfl, hm⟩ := okD_tup' ht
    have sh := shaped_ok ht (by omega)
    match l with
    | [] =>
      refine dss_cons (ds_if (b := true) (PTD.eq (PWD.pt (pwd_or (ptd_not (ptd_val (pd_isTup B (pdv 0)))) (fun _ => pwd_or (v := false) (ptd_eq hr.units (pdv 0) (pd_tup pds_nil) sh rfl) (fun q => by cases q)))) rfl) (fun _ => dss_one (ds_ret pd_bl rfl)) (fun hb => nomatch hb))
    | x :: r =>
      have hx := hm x (by simp)
      by_cases hs : isStrD x = true
      · obtain ⟨w, rfl⟩ : ∃ w, x = .str w := by
          cases x <;> first | exact ⟨_, rfl⟩ | cases hs
        refine dss_cons (ds_if (b := false) (PTD.eq (PWD.pt (pwd_or (ptd_not (ptd_val (pd_isTup B (pdv 0)))) (fun _ => pwd_or (ptd_eq hr.units (pdv 0) (pd_tup pds_nil) sh rfl) (fun _ => pwd_or1 (ptd_not (ptd_val (pd_isStr B (pd_ixT (pdv 0) pd_int (atI_0 _ _))))))))) rfl) (fun hb => nomatch hb) (fun _ => dss_nil ?_))
        refine dss_cons (ds_setN 1 sc_law_is_change.nd (mo := dctF PyData.int (mergeA sizesK)) (pn_disp (f := PyData.int) (kvs := sizesK) (.cons pd_str pd_int (.cons pd_str pd_int (.cons pd_str pd_int (.cons pd_str pd_int (.cons pd_str pd_int .nil))))) (fun z => nomatch z) (by decide)) fun a ha => ?_)
        have hget : ∀ (b c : Expr) (p1 p2 p3 : Pos), True := fun _ _ _ _ _ => trivial
        by_cases hsz : ((.str w :: r : List D).length : Int) = sizeW w
        · -- the word is known, and so long it is
          obtain ⟨y, r, rfl⟩ : ∃ y q, r = y :: q := by
            match r with
            | [] =>
              exfalso
              have := sizeW_cases w
              simp only [List.length_cons, List.length_nil] at hsz
              omega
            | y :: q => exact ⟨y, q, rfl⟩
          have hy := hm y (by simp)
          refine dss_cons (ds_if (b := !isKeyD y) (PTD.eq (PWD.pt (pwd_or (ptd_neI (pd_lenT (by rfl) B.len (pdv 0)) (PD.eq (pd_get2 (hu_of hr) (pov 1 rfl mup_same) (pd_ixT (pdv 0) pd_int (atI_0 _ _)) pd_int ⟨rfl, rfl, rfl, rfl⟩) (sizeW_get w))) (fun _ => pwd_or1 (ptd_not (ptd_val (pd_call hk hr (by rfl) (pds_cons (pd_ixT (pdv 0) pd_int (atI_1 _ y _)) pds_nil) ⟨y, m, rfl, hy, by omega, rfl⟩)))))) (by rw [decide_eq_true hsz]; rfl)) (fun hb => ?_) (fun hb => dss_nil ?_))
          · refine dss_one (ds_ret pd_bl ?_)
            show Sl.d (.bool false) = Sl.d (.bool (isChangeD (.tuple (.str w :: y :: r))))
            rw [change_key (not_t hb)]
          · have hb := not_f hb
            refine dss_cons (ds_if (ptd_eqS (pd_ixT (pdv 0) pd_int (atI_0 _ _)) pd_str) (fun he => ?_) (fun he => dss_nil ?_))
            · have he := of_decide_eq_true he
              subst he
              obtain ⟨z, rfl⟩ : ∃ z, r = [z] := by
                have e3 : sizeW "move" = 3 := by decide +kernel
                rw [e3] at hsz
                simp only [List.length_cons] at hsz
                match r with
                | [] => simp at hsz
                | [z] => exact ⟨z, rfl⟩
                | _ :: _ :: _ => simp only [List.length_cons] at hsz; omega
              refine dss_one (ds_ret (pd_call hk hr (by rfl) (pds_cons (pd_ixT (pdv 0) pd_int (atI_2 _ _ z _)) pds_nil) ⟨z, m, rfl, hm z (by simp), by omega, rfl⟩) ?_)
              show Sl.d (.bool (isKeyD z)) = Sl.d (.bool (isChangeD (.tuple [.str "move", y, z])))
              rw [change_three _ _ _ hb]
              rw [show (decide (("move" : Str) = "put") || decide (("move" : Str) = "add") || decide (("move" : Str) = "keep")) = false by decide +kernel]
              simp
            · have he := of_decide_eq_false he
              by_cases hd : w = "drop"
              · subst hd
                have e3 : sizeW "drop" = 2 := by decide +kernel
                rw [e3] at hsz
                have hr0 : r = [] := by
                  match r with
                  | [] => rfl
                  | _ :: _ => simp only [List.length_cons] at hsz; omega
                subst hr0
                refine dss_one (ds_ret (d := .bool true) (PD.eq (pd_or (v := false) (pd_cmp op_eq rd_eqStr (pd_ixT (pdv 0) pd_int (atI_0 _ _)) pd_str) (fun q => by cases q)) rfl) ?_)
                show Sl.d (.bool true) = Sl.d (.bool (isChangeD (.tuple [.str "drop", y])))
                rw [change_two _ _ hb]; rfl
              · have h3 := sizeW_other w hsz hd he
                obtain ⟨z, rfl⟩ : ∃ z, r = [z] := by
                  rw [h3.1] at hsz
                  match r with
                  | [] => simp at hsz
                  | [z] => exact ⟨z, rfl⟩
                  | _ :: _ :: _ => simp only [List.length_cons] at hsz; omega
                refine dss_one (ds_ret (pd_or (pd_cmp op_eq rd_eqStr (pd_ixT (pdv 0) pd_int (atI_0 _ _)) pd_str) (fun _ => pd_one (pd_call hw hr (by rfl) (pds_cons (pd_ixT (pdv 0) pd_int (atI_2 _ _ z _)) pds_nil) ⟨z, m, rfl, hm z (by simp), by omega, rfl⟩))) ?_)
                show Sl.d (.bool (decide (w = "drop") || isWorthD z)) = Sl.d (.bool (isChangeD (.tuple [.str w, y, z])))
                rw [change_three _ _ _ hb, decide_eq_false hd, decide_eq_false he, h3.2]
                simp
        · refine dss_cons (ds_if (b := true) (PTD.eq (PWD.pt (pwd_or (v := false) (ptd_neI (pd_lenT (by rfl) B.len (pdv 0)) (PD.eq (pd_get2 (hu_of hr) (pov 1 rfl mup_same) (pd_ixT (pdv 0) pd_int (atI_0 _ _)) pd_int ⟨rfl, rfl, rfl, rfl⟩) (sizeW_get w))) (fun q => absurd (of_decide_eq_true (not_f q)) hsz))) (by rw [decide_eq_false hsz]; rfl)) (fun _ => dss_one (ds_ret pd_bl ?_)) (fun hb => nomatch hb))
          show Sl.d (.bool false) = Sl.d (.bool (isChangeD (.tuple (.str w :: r))))
          rw [sizeW_no w r hsz]
      · have hs : isStrD x = false := by cases q : isStrD x; rfl; exact absurd q hs
        refine dss_cons (ds_if (b := true) (PTD.eq (PWD.pt (pwd_or (ptd_not (ptd_val (pd_isTup B (pdv 0)))) (fun _ => pwd_or (ptd_eq hr.units (pdv 0) (pd_tup pds_nil) sh rfl) (fun _ => pwd_or1 (ptd_not (ptd_val (pd_isStr B (pd_ixT (pdv 0) pd_int (atI_0 x _))))))))) (by rw [hs]; rfl)) (fun _ => dss_one (ds_ret pd_bl ?_)) (fun hb => nomatch hb))
        show Sl.d (.bool false) = Sl.d (.bool (isChangeD (.tuple (x :: r))))
        rw [change_noword r hs]
  · refine dss_cons (ds_if (b := true) (PTD.eq (PWD.pt (pwd_or (v := false) (ptd_not (ptd_val (pd_isTup B (pdv 0)))) (fun q => ?_))) ?_) (fun _ => dss_one (ds_ret pd_bl ?_)) (fun hb => nomatch hb))
    · cases t <;> first | exact absurd ⟨_, rfl⟩ hT | cases q
    · cases t <;> first | exact absurd ⟨_, rfl⟩ hT | rfl
    · cases t <;> first | exact absurd ⟨_, rfl⟩ hT | rfl
theorem sc_law_spoilt : FnScope ["thing", "number", "deep", "at", "part", "some"] ["thing", "number", "deep"] (defScope S_law_spoilt) := ⟨rfl, rfl, rfl, by decide +kernel, rfl, by decide +kernel, by decide +kernel⟩
theorem ok_law_spoilt (h : Dfn K mg "_law_spoilt" S_law_spoilt ["thing", "number", "deep"]) (B : Bt mg) (hd : DefD P w K mg base 1 "_law_drawn" ["number", "k"] FDrawn) : ∀ k, DefD P w K mg base (k + 2) "_law_spoilt" ["thing", "number", "deep"] (FSpoilt k) := by
  intro k
  induction k using Nat.strongRecOn with
  | _ k ih =>
  refine def_okD h sc_law_spoilt (fun ds d ⟨t, n, j, e, _⟩ => by rw [e]; rfl) fun f cdv A outer s H E ds d hr hF => ?_
  obtain ⟨t, n, j, rfl, ht, hn, hj, hj100, rfl⟩ := hF
  have leaf : DSs (bCx P w K mg base ["thing", "number", "deep", "at", "part", "some"] "_law_spoilt" S_law_spoilt f cdv A outer s H E) ((defBody S_law_spoilt).drop 1) (entry ["thing", "number", "deep", "at", "part", "some"] [t, .int n, .int (j : Nat)]) m0 { nx := fun _ _ => False, rt := fun s _ => s = .d (spoiltLeaf t n) } := by
    have rest : spoiltLeaf t n = menu21.getD (n / 6 % 21).toNat .none → DSs (bCx P w K mg base ["thing", "number", "deep", "at", "part", "some"] "_law_spoilt" S_law_spoilt f cdv A outer s H E) ((defBody S_law_spoilt).drop 2) (entry ["thing", "number", "deep", "at", "part", "some"] [t, .int n, .int (j : Nat)]) m0 { nx := fun _ _ => False, rt := fun s _ => s = .d (spoiltLeaf t n) } := fun e => by
      rw [e]
      refine dss_cons (ds_set 5 sc_law_spoilt.nd (d := .list some17) (pd_lst (pds_cons pd_non (pds_cons pd_bl (pds_cons pd_int (pds_cons pd_int (pds_cons pd_int (pds_cons (pd_neg pd_int) (pds_cons pd_str (pds_cons pd_str (pds_cons pd_str (pds_cons pd_str (pds_cons pd_str (pds_cons pd_str (pds_cons pd_str (pds_cons pd_str (pds_cons pd_str (pds_cons (pd_tup pds_nil) (pds_cons (pd_tup (pds_cons pd_str pds_nil)) pds_nil)))))))))))))))))) ?_)
      refine dss_one (ds_ret (pd_ixL (pd_catL (pdv 5) (pd_lst (pds_cons (pd_tup (pds_cons pd_str (pds_cons pd_int pds_nil))) (pds_cons (pd_lst (pds_cons pd_str (pds_cons pd_int pds_nil))) (pds_cons (pd_tup (pds_cons pd_str (pds_cons pd_str (pds_cons pd_int pds_nil)))) (pds_cons pd_str pds_nil))))) (by decide)) (pd_mod (pd_div (pdv 1) pd_int (by decide)) pd_int (by decide)) (atI_getD _ _ .none (by omega) (by show _ < (21 : Int); omega))) rfl)
    by_cases hf : isFull t = true
    · obtain ⟨x, r, rfl⟩ := full_parts hf
      obtain ⟨hl, m, e, hm⟩ := okS_tup' ht
      have hlen : ¬ ((x :: r).length : Int) ≤ 0 := by simp only [List.length_cons]; omega
      have hz : sizeLine = 16777216 := rfl
      have c2 := cutD_len (x :: r) (some (-1)) none
      refine dss_cons (ds_if (b := decide (n / 6 % 2 = 0)) (PTD.eq (PWD.pt (pwd_and (ptd_val (pd_isTup B (pdv 0))) (fun _ => pwd_and (ptd_gt (pd_lenT (by rfl) B.len (pdv 0)) pd_int) (fun _ => pwd_and1 (ptd_eqI (pd_mod (pd_div (pdv 1) pd_int (by decide)) pd_int (by decide)) pd_int))))) (by rw [decide_eq_true (show (0 : Int) < ((x :: r).length : Int) by omega)]; rfl)) (fun hb => ?_) (fun hb => dss_nil ?_))
      · have hb := of_decide_eq_true hb
        have e : spoiltLeaf (.tuple (x :: r)) n = (menu6 (x :: r)).getD (n / 12 % 6).toNat .none := by
          unfold spoiltLeaf
          rw [if_pos ⟨hf, hb⟩]; rfl
        rw [e]
        refine dss_one (ds_ret (pd_ixL (ds := menu6 (x :: r)) (pd_lst (pds_cons (pd_listT (by rfl) B.list (pdv 0)) (pds_cons (pd_slT (pdv 0) pod_none (pod_some (pd_neg pd_int))) (pds_cons (pd_catT (pdv 0) (pd_slT (pdv 0) (pod_some (pd_neg pd_int)) pod_none) (by omega)) (pds_cons (pd_slT (pdv 0) (pod_some pd_int) pod_none) (pds_cons (pd_revT (pdv 0)) (pds_cons (pd_twice (pdv 0) pd_int (by simp) (by omega)) pds_nil))))))) (pd_mod (pd_div (pdv 1) pd_int (by decide)) pd_int (by decide)) (atI_getD _ _ .none (by omega) (by show _ < (6 : Int); omega))) rfl)
      · have hb := of_decide_eq_false hb
        exact rest (by unfold spoiltLeaf; rw [if_neg (fun q => hb q.2)])
    · have hrest := rest (by unfold spoiltLeaf; rw [if_neg (fun q => hf q.1)])
      by_cases hT : t = .tuple []
      · subst hT
        exact dss_cons (ds_if (b := false) (PTD.eq (PWD.pt (pwd_and (ptd_val (pd_isTup B (pdv 0))) (fun _ => pwd_and (v := false) (ptd_gt (pd_lenT (by rfl) B.len (pdv 0)) pd_int) (fun q => by cases q)))) rfl) (fun hb => nomatch hb) (fun _ => dss_nil hrest))
      · have hn : isTupD t = false := by
          cases t with
          | tuple l =>
            cases l with
            | nil => exact absurd rfl hT
            | cons a l => exact absurd rfl hf
          | _ => rfl
        exact dss_cons (ds_if (b := false) (PTD.eq (PWD.pt (pwd_and (v := false) (ptd_val (pd_isTup B (pdv 0))) (fun q => by rw [hn] at q; cases q))) (by rw [hn]; rfl)) (fun hb => nomatch hb) (fun _ => dss_nil hrest))
  have leaf' : spoilt j t n = spoiltLeaf t n → DSs (bCx P w K mg base ["thing", "number", "deep", "at", "part", "some"] "_law_spoilt" S_law_spoilt f cdv A outer s H E) ((defBody S_law_spoilt).drop 1) (entry ["thing", "number", "deep", "at", "part", "some"] [t, .int n, .int (j : Nat)]) m0 { nx := fun _ _ => spoilt j t n = .none, rt := fun s _ => s = .d (spoilt j t n) } := fun e => by
    rw [e]
    exact leaf.imp (fun _ _ h => h.elim) (fun _ _ h => h) (fun _ _ h => h) (fun _ _ h => h)
  cases j with
  | zero => exact dss_cons (ds_if (b := false) (PTD.eq (PWD.pt (pwd_and (v := false) (ptd_gt (pdv 2) pd_int) (fun q => by cases q))) rfl) (fun hb => nomatch hb) (fun _ => dss_nil (leaf' rfl)))
  | succ j =>
    have hj1 : decide ((0 : Int) < ((j + 1 : Nat) : Int)) = true := decide_eq_true (by omega)
    by_cases hf : isFull t = true
    · obtain ⟨x, r, rfl⟩ := full_parts hf
      obtain ⟨hl, m, e, hm⟩ := okS_tup' ht
      cases e
      have hz : sizeLine = 16777216 := rfl
      have hp : (0 : Int) < ((x :: r).length : Int) := by simp only [List.length_cons]; omega
      have h1 := Int.emod_nonneg (n / 6) (show ((x :: r).length : Int) ≠ 0 by omega)
      have h2 := Int.emod_lt_of_pos (n / 6) hp
      have c1 := cutD_len (x :: r) none (some (n / 6 % ((x :: r).length : Int)))
      have c2 := cutD_len (x :: r) (some (n / 6 % ((x :: r).length : Int) + 1)) none
      refine dss_cons (ds_if (b := decide (0 < n % 6)) (PTD.eq (PWD.pt (pwd_and (ptd_gt (pdv 2) pd_int) (fun _ => pwd_and (ptd_val (pd_isTup B (pdv 0))) (fun _ => pwd_and (ptd_gt (pd_lenT (by rfl) B.len (pdv 0)) pd_int) (fun _ => pwd_and1 (ptd_gt (pd_mod (pdv 1) pd_int (by decide)) pd_int)))))) (by rw [hj1, decide_eq_true hp]; rfl)) (fun hb => ?_) (fun hb => dss_nil ?_))
      · have hb := of_decide_eq_true hb
        have hdb := drawn_b n ((j + 1 : Nat) : Int)
        refine dss_cons (ds_set 3 sc_law_spoilt.nd (pd_mod (pd_div (pdv 1) pd_int (by decide)) (pd_lenT (by rfl) B.len (pdv 0)) hp) ?_)
        obtain ⟨k, rfl⟩ : ∃ q, k = q + 1 := ⟨k - 1, by omega⟩
        refine dss_cons (ds_set 4 sc_law_spoilt.nd (pd_call (ih k (by omega)) hr (by rfl) (pds_cons (pd_ixT (pdv 0) (pdv 3) (atI_getD _ _ .none h1 h2)) (pds_cons (pd_div (pd_call hd (hr.mono (by omega)) (by rfl) (pds_cons (pdv 1) (pds_cons (pdv 2) pds_nil)) ⟨_, _, rfl, by omega, by omega, rfl⟩) pd_int (by decide)) (pds_cons (PD.eq (pd_sub (pdv 2) pd_int) (show PyData.int (((j + 1 : Nat) : Int) - 1) = .int (j : Nat) by congr 1; omega)) pds_nil))) ⟨_, _, j, rfl, ?_, by omega, by omega, by omega, rfl⟩) ?_)
        · exact okS_le (hm _ (getD_mem _ _ _ (by omega))) (by omega)
        · refine dss_one (ds_ret (pd_catT (pd_catT (pd_slT (pdv 0) pod_none (pod_some (pdv 3))) (pd_tup (pds_cons (pdv 4) pds_nil)) ?_) (pd_slT (pdv 0) (pod_some (pd_add (pdv 3) pd_int)) pod_none) ?_) ?_)
          · simp only [List.length_cons, List.length_nil] at c1 hl ⊢
            omega
          · simp only [List.length_append, List.length_cons, List.length_nil] at c1 c2 hl ⊢
            omega
          · rw [spoilt_full hb]
      · have hb := of_decide_eq_false hb
        exact leaf' (by unfold spoilt; rw [if_neg (fun q => hb q.2)])
    · have hrest := leaf' (by unfold spoilt; rw [if_neg (fun q => hf q.1)])
      by_cases hT : t = .tuple []
      · subst hT
        exact dss_cons (ds_if (b := false) (PTD.eq (PWD.pt (pwd_and (ptd_gt (pdv 2) pd_int) (fun _ => pwd_and (ptd_val (pd_isTup B (pdv 0))) (fun _ => pwd_and (v := false) (ptd_gt (pd_lenT (by rfl) B.len (pdv 0)) pd_int) (fun q => by cases q))))) (by rw [hj1]; rfl)) (fun hb => nomatch hb) (fun _ => dss_nil hrest))
      · have hn : isTupD t = false := by
          cases t with
          | tuple l =>
            cases l with
            | nil => exact absurd rfl hT
            | cons a l => exact absurd rfl hf
          | _ => rfl
        exact dss_cons (ds_if (b := false) (PTD.eq (PWD.pt (pwd_and (ptd_gt (pdv 2) pd_int) (fun _ => pwd_and (v := false) (ptd_val (pd_isTup B (pdv 0))) (fun q => by rw [hn] at q; cases q)))) (by rw [hj1, hn]; rfl)) (fun hb => nomatch hb) (fun _ => dss_nil hrest))
theorem sc_law : FnScope ["script", "number", "thing", "other", "long", "far", "one", "found"] ["script"] (defScope S_law) := ⟨rfl, rfl, rfl, by decide +kernel, rfl, by decide +kernel, by decide +kernel⟩
theorem ok_law {f : Addr} {fd : FuncData} (Fu : Fun K "law" "law" S_law f fd) (B : Bt mg)
    (hm : DefD P w K mg base 2 "_law_mixed" ["script", "k"] FMixed) (hb : DefD P w K mg base 2 "_law_book" ["number"] FBook) (hc : DefD P w K mg base 1 "_law_change" ["number", "many"] FChange) (hs : DefD P w K mg base 4 "_law_spoilt" ["thing", "number", "deep"] (FSpoilt 2))
    (h1 : DefD P w K mg base 3 "is_book" ["thing"] (FB1 isBookD)) (h2 : DefD P w K mg base 2 "_law_is_book" ["thing"] (FB1 isBookD)) (h3 : DefD P w K mg base 2 "is_change" ["thing"] (FB1 isChangeD)) (h4 : DefD P w K mg base 2 "_law_is_change" ["thing"] (FB1 isChangeD)) :
    FnOk P w K mg base CX0 5 f fd ["script"] (spD K FLaw) := by
  refine fn_ok Fu sc_law (fun ds d ⟨ns, e, _⟩ => by rw [e]; rfl) fun cdv A outer s H E ds d hr hF => ?_
  obtain ⟨ns, rfl, hlen, rfl⟩ := hF
  have r2 : Room 2 (A.deeper (PyProof.Rows.envOfC "law" (defScope S_law) s.heap.objs.size f cdv)) := hr.mono (by decide)
  have r1 : Room 1 (A.deeper (PyProof.Rows.envOfC "law" (defScope S_law) s.heap.objs.size f cdv)) := hr.mono (by decide)
  have r3 : Room 3 (A.deeper (PyProof.Rows.envOfC "law" (defScope S_law) s.heap.objs.size f cdv)) := hr.mono (by decide)
  have b0 := mixed_b ns 0
  have b2 := mixed_b ns 2
  have b3 := mixed_b ns 3
  have b4 := mixed_b ns 4
  -- what comes behind the spoiling
  have rest : ∀ t o, okD 6 t → okD 6 o → DSs (bCx P w K mg base ["script", "number", "thing", "other", "long", "far", "one", "found"] "law" S_law f cdv A outer s H E) ((defBody S_law).drop 4) [.d (dInts ns), .d (.int (mixed ns 0)), .d t, .d o, .u, .u, .u, .u] m0 { nx := fun _ _ => PyData.bool true = .none, rt := fun s _ => s = .d (.bool true) } := fun t o ht ho => by
    obtain ⟨lg, hlg, hol⟩ := long_is (mixed ns 0 / 64 % 3) (by omega) (by omega)
    refine dss_cons (ds_set 4 sc_law.nd (d := .str lg) (PD.eq (pd_slS pd_str pod_none (pod_some (pd_add pd_int (pd_mod (pd_div (pdv 1) pd_int (by decide)) pd_int (by decide)))) (by decide +kernel)) (by rw [hlg])) ?_)
    refine dss_cons (ds_set 5 sc_law.nd (pd_add pd_int (pd_mod (pd_div (pdv 1) pd_int (by decide)) pd_int (by decide))) ?_)
    have all : ∀ d ∈ [t, o, .tuple [.tuple [.str lg, .int (998 + mixed ns 0 / 256 % 3)]], .tuple [.str "put", .str lg, .int (998 + mixed ns 0 / 256 % 3)], .tuple [.str "move", .str "a", .str lg]], okD 6 d := by
      intro d hd
      simp only [List.mem_cons, List.not_mem_nil, or_false] at hd
      have l0 : ∀ n, okD n (.str lg) := fun n => okD_str' hol.1 (Nat.le_trans hol.2 (by decide))
      have w1 : ∀ n, okD n (.str "put") := fun n => okD_str' (by decide +kernel) (by decide +kernel)
      have w2 : ∀ n, okD n (.str "move") := fun n => okD_str' (by decide +kernel) (by decide +kernel)
      have w3 : ∀ n, okD n (.str "a") := fun n => okD_str' (by decide +kernel) (by decide +kernel)
      rcases hd with rfl | rfl | rfl | rfl | rfl
      · exact ht
      · exact ho
      · refine okD_tup (Nat.le_of_ble_eq_true rfl) fun d hd => ?_
        rw [List.mem_singleton.mp hd]
        refine okD_tup (Nat.le_of_ble_eq_true rfl) fun d hd => ?_
        simp only [List.mem_cons, List.not_mem_nil, or_false] at hd
        rcases hd with rfl | rfl
        · exact l0 _
        · exact okD_int
      · refine okD_tup (Nat.le_of_ble_eq_true rfl) fun d hd => ?_
        simp only [List.mem_cons, List.not_mem_nil, or_false] at hd
        rcases hd with rfl | rfl | rfl
        · exact w1 _
        · exact l0 _
        · exact okD_int
      · refine okD_tup (Nat.le_of_ble_eq_true rfl) fun d hd => ?_
        simp only [List.mem_cons, List.not_mem_nil, or_false] at hd
        rcases hd with rfl | rfl | rfl
        · exact w2 _
        · exact w3 _
        · exact l0 _
    refine dss_cons (ds_for (fun i ρ M => M = m0 ∧ ∃ s6 s7, ρ = [.d (dInts ns), .d (.int (mixed ns 0)), .d t, .d o, .d (.str lg), .d (.int (998 + mixed ns 0 / 256 % 3)), s6, s7]) PassesOwn.never rfl (pid_tup (pd_tup (pds_cons (pdv 2) (pds_cons (pdv 3) (pds_cons (pd_tup (pds_cons (pd_tup (pds_cons (pdv 4) (pds_cons (pdv 5) pds_nil))) pds_nil)) (pds_cons (pd_tup (pds_cons pd_str (pds_cons (pdv 4) (pds_cons (pdv 5) pds_nil)))) (pds_cons (pd_tup (pds_cons pd_str (pds_cons pd_str (pds_cons (pdv 4) pds_nil)))) pds_nil))))))) ⟨rfl, .u, .u, rfl⟩ ?_ ?_)
    · rintro i d ρ M hi ⟨rfl, s6, s7, rfl⟩
      have hd := all d (List.mem_of_getElem? hi)
      have same : ∀ b : Bool, (!isBoolD (.bool b) || !PyData.eqv (.bool b) (.bool b)) = false := fun b => by cases b <;> rfl
      refine ⟨_, [6], pgd_name 6 sc_law.nd, ?_⟩
      refine dss_cons (ds_set 7 sc_law.nd (pd_call h1 r3 (by rfl) (pds_cons (pdv 6) pds_nil) ⟨d, 6, rfl, hd, by decide, rfl⟩) ?_)
      refine dss_cons (ds_if (b := false) (PTD.eq (PWD.pt (pwd_or (ptd_not (ptd_val (pd_isBool B (pdv 7)))) (fun _ => pwd_or1 (ptd_ne hr.units (pdv 7) (pd_call h2 r2 (by rfl) (pds_cons (pdv 6) pds_nil) ⟨d, 6, rfl, hd, by decide, rfl⟩) rfl rfl)))) (same _)) (fun hb => nomatch hb) (fun _ => dss_nil ?_))
      refine dss_cons (ds_set 7 sc_law.nd (pd_call h3 r2 (by rfl) (pds_cons (pdv 6) pds_nil) ⟨d, 6, rfl, hd, by decide, rfl⟩) ?_)
      refine dss_one (ds_if (b := false) (PTD.eq (PWD.pt (pwd_or (ptd_not (ptd_val (pd_isBool B (pdv 7)))) (fun _ => pwd_or1 (ptd_ne hr.units (pdv 7) (pd_call h4 r2 (by rfl) (pds_cons (pdv 6) pds_nil) ⟨d, 6, rfl, hd, by decide, rfl⟩) rfl rfl)))) (same _)) (fun hb => nomatch hb) (fun _ => dss_nil ⟨rfl, _, _, rfl⟩))
    · rintro ρ M ⟨rfl, s6, s7, rfl⟩
      exact dss_one (ds_ret pd_bl rfl)
  refine dss_cons (ds_set 1 sc_law.nd (pd_call hm r2 (by rfl) (pds_cons (pdv 0) (pds_cons pd_int pds_nil)) ⟨ns, 0, rfl, by decide, by decide, rfl⟩) ?_)
  refine dss_cons (ds_set 2 sc_law.nd (pd_call hb r2 (by rfl) (pds_cons (pd_call hm r2 (by rfl) (pds_cons (pdv 0) (pds_cons pd_int pds_nil)) ⟨ns, 1, rfl, by decide, by decide, rfl⟩) pds_nil) ⟨_, rfl, rfl⟩) ?_)
  refine dss_cons (ds_set 3 sc_law.nd (pd_call hc r1 (by rfl) (pds_cons (pd_call hm r2 (by rfl) (pds_cons (pdv 0) (pds_cons pd_int pds_nil)) ⟨ns, 2, rfl, by decide, by decide, rfl⟩) (pds_cons pd_int pds_nil)) ⟨_, 4, rfl, b2.1, by decide, by decide, rfl⟩) ?_)
  have oB := okS_book (mixed ns 1)
  have oC := okS_change (mixed ns 2) 4 (by decide) (by decide)
  refine dss_cons (ds_if (ptd_gt (pd_mod (pdv 1) pd_int (by decide)) pd_int) (fun hb => ?_) (fun hb => dss_nil (rest _ _ (okS_ok _ _ (okS_le oB (by decide))) (okS_ok _ _ (okS_le oC (by decide))))))
  have k1 : ((mixed ns 0 / 3 % 3).toNat : Int) = mixed ns 0 / 3 % 3 := by omega
  have k2 : ((mixed ns 0 / 9 % 2).toNat : Int) = mixed ns 0 / 9 % 2 := by omega
  refine dss_cons (ds_set 2 sc_law.nd (pd_call hs hr (by rfl) (pds_cons (pdv 2) (pds_cons (pd_call hm r2 (by rfl) (pds_cons (pdv 0) (pds_cons pd_int pds_nil)) ⟨ns, 3, rfl, by decide, by decide, rfl⟩) (pds_cons (pd_mod (pd_div (pdv 1) pd_int (by decide)) pd_int (by decide)) pds_nil))) ⟨_, _, (mixed ns 0 / 3 % 3).toNat, by rw [k1], okS_le oB (by decide), b3.1, by omega, by omega, rfl⟩) ?_)
  refine dss_one (ds_set 3 sc_law.nd (pd_call hs hr (by rfl) (pds_cons (pdv 3) (pds_cons (pd_call hm r2 (by rfl) (pds_cons (pdv 0) (pds_cons pd_int pds_nil)) ⟨ns, 4, rfl, by decide, by decide, rfl⟩) (pds_cons (pd_mod (pd_div (pdv 1) pd_int (by decide)) pd_int (by decide)) pds_nil))) ⟨_, _, (mixed ns 0 / 9 % 2).toNat, by rw [k2], okS_le oC (by decide), b4.1, by omega, by omega, rfl⟩) ?_)
  exact rest _ _ (okD_le (ok_spoilt' (by omega) oB _ b3.1) (by decide)) (okD_le (ok_spoilt' (by omega) oC _ b4.1) (by decide))
end
theorem all_mk {l : PySem.W.OpenLaw} {w : World} {K : Fg} {h : Heap} {mg : Str → Option Value} {fa : Addr} (X : K.In h) (G : h.Ns mainGlobals mg) (hfa : mg "law" = some (.ref fa))
    {f0 : Addr} {od0 an0 : Option Addr} {sl0 : Array (Option Value)} {oc0 kV0 dc0 pm0 cd0 ct0 : Value}
    {f1 : Addr} {od1 an1 : Option Addr} {sl1 : Array (Option Value)} {oc1 kV1 dc1 pm1 cd1 ct1 : Value}
    {f2 : Addr} {od2 an2 : Option Addr} {sl2 : Array (Option Value)} {oc2 kV2 dc2 pm2 cd2 ct2 : Value}
    {f3 : Addr} {od3 an3 : Option Addr} {sl3 : Array (Option Value)} {oc3 kV3 dc3 pm3 cd3 ct3 : Value}
    {f4 : Addr} {od4 an4 : Option Addr} {sl4 : Array (Option Value)} {oc4 kV4 dc4 pm4 cd4 ct4 : Value}
    {f5 : Addr} {od5 an5 : Option Addr} {sl5 : Array (Option Value)} {oc5 kV5 dc5 pm5 cd5 ct5 : Value}
    {f6 : Addr} {od6 an6 : Option Addr} {sl6 : Array (Option Value)} {oc6 kV6 dc6 pm6 cd6 ct6 : Value}
    {f7 : Addr} {od7 an7 : Option Addr} {sl7 : Array (Option Value)} {oc7 kV7 dc7 pm7 cd7 ct7 : Value}
    {f8 : Addr} {od8 an8 : Option Addr} {sl8 : Array (Option Value)} {oc8 kV8 dc8 pm8 cd8 ct8 : Value}
    {f9 : Addr} {od9 an9 : Option Addr} {sl9 : Array (Option Value)} {oc9 kV9 dc9 pm9 cd9 ct9 : Value}
    {f10 : Addr} {od10 an10 : Option Addr} {sl10 : Array (Option Value)} {oc10 kV10 dc10 pm10 cd10 ct10 : Value}
    {f11 : Addr} {od11 an11 : Option Addr} {sl11 : Array (Option Value)} {oc11 kV11 dc11 pm11 cd11 ct11 : Value}
    {f12 : Addr} {od12 an12 : Option Addr} {sl12 : Array (Option Value)} {oc12 kV12 dc12 pm12 cd12 ct12 : Value}
    {f13 : Addr} {od13 an13 : Option Addr} {sl13 : Array (Option Value)} {oc13 kV13 dc13 pm13 cd13 ct13 : Value}
    {f14 : Addr} {od14 an14 : Option Addr} {sl14 : Array (Option Value)} {oc14 kV14 dc14 pm14 cd14 ct14 : Value}
    {f15 : Addr} {od15 an15 : Option Addr} {sl15 : Array (Option Value)} {oc15 kV15 dc15 pm15 cd15 ct15 : Value}
    {tLETTERS : Tok}
    {tLONGEST : Tok}
    {tRING : Tok}
    {AWITH_WORTH : Addr} {tWITH_WORTH0 tWITH_WORTH1 tWITH_WORTH2 : Tok} {nWITH_WORTH : Nat} {slWITH_WORTH : Array (Option Value)}
    (a0 : PySem.W.nsIn K mainGlobals "is_key" = some (some (.ref f0))) (l0 : K.lookup f0 = some ⟨oc0, od0, .func (PySem.W.fnOf "is_key" "is_key" (defArgs S_is_key) (defBody S_is_key) (defScope S_is_key) .none kV0 dc0 pm0 an0 cd0 ct0), sl0⟩) (c0 : PySem.W.codeIn K cd0 "is_key" = true) (k0 : PySem.W.keepIn K (.ref f0) = true)
    (a1 : PySem.W.nsIn K mainGlobals "is_worth" = some (some (.ref f1))) (l1 : K.lookup f1 = some ⟨oc1, od1, .func (PySem.W.fnOf "is_worth" "is_worth" (defArgs S_is_worth) (defBody S_is_worth) (defScope S_is_worth) .none kV1 dc1 pm1 an1 cd1 ct1), sl1⟩) (c1 : PySem.W.codeIn K cd1 "is_worth" = true) (k1 : PySem.W.keepIn K (.ref f1) = true)
    (a2 : PySem.W.nsIn K mainGlobals "is_pair" = some (some (.ref f2))) (l2 : K.lookup f2 = some ⟨oc2, od2, .func (PySem.W.fnOf "is_pair" "is_pair" (defArgs S_is_pair) (defBody S_is_pair) (defScope S_is_pair) .none kV2 dc2 pm2 an2 cd2 ct2), sl2⟩) (c2 : PySem.W.codeIn K cd2 "is_pair" = true) (k2 : PySem.W.keepIn K (.ref f2) = true)
    (a3 : PySem.W.nsIn K mainGlobals "is_book" = some (some (.ref f3))) (l3 : K.lookup f3 = some ⟨oc3, od3, .func (PySem.W.fnOf "is_book" "is_book" (defArgs S_is_book) (defBody S_is_book) (defScope S_is_book) .none kV3 dc3 pm3 an3 cd3 ct3), sl3⟩) (c3 : PySem.W.codeIn K cd3 "is_book" = true) (k3 : PySem.W.keepIn K (.ref f3) = true)
    (a4 : PySem.W.nsIn K mainGlobals "is_change" = some (some (.ref f4))) (l4 : K.lookup f4 = some ⟨oc4, od4, .func (PySem.W.fnOf "is_change" "is_change" (defArgs S_is_change) (defBody S_is_change) (defScope S_is_change) .none kV4 dc4 pm4 an4 cd4 ct4), sl4⟩) (c4 : PySem.W.codeIn K cd4 "is_change" = true) (k4 : PySem.W.keepIn K (.ref f4) = true)
    (a5 : PySem.W.nsIn K mainGlobals "_law_cell_at" = some (some (.ref f5))) (l5 : K.lookup f5 = some ⟨oc5, od5, .func (PySem.W.fnOf "_law_cell_at" "_law_cell_at" (defArgs S_law_cell_at) (defBody S_law_cell_at) (defScope S_law_cell_at) .none kV5 dc5 pm5 an5 cd5 ct5), sl5⟩) (c5 : PySem.W.codeIn K cd5 "_law_cell_at" = true) (k5 : PySem.W.keepIn K (.ref f5) = true)
    (a6 : PySem.W.nsIn K mainGlobals "_law_mixed" = some (some (.ref f6))) (l6 : K.lookup f6 = some ⟨oc6, od6, .func (PySem.W.fnOf "_law_mixed" "_law_mixed" (defArgs S_law_mixed) (defBody S_law_mixed) (defScope S_law_mixed) .none kV6 dc6 pm6 an6 cd6 ct6), sl6⟩) (c6 : PySem.W.codeIn K cd6 "_law_mixed" = true) (k6 : PySem.W.keepIn K (.ref f6) = true)
    (a7 : PySem.W.nsIn K mainGlobals "_law_drawn" = some (some (.ref f7))) (l7 : K.lookup f7 = some ⟨oc7, od7, .func (PySem.W.fnOf "_law_drawn" "_law_drawn" (defArgs S_law_drawn) (defBody S_law_drawn) (defScope S_law_drawn) .none kV7 dc7 pm7 an7 cd7 ct7), sl7⟩) (c7 : PySem.W.codeIn K cd7 "_law_drawn" = true) (k7 : PySem.W.keepIn K (.ref f7) = true)
    (a8 : PySem.W.nsIn K mainGlobals "_law_change" = some (some (.ref f8))) (l8 : K.lookup f8 = some ⟨oc8, od8, .func (PySem.W.fnOf "_law_change" "_law_change" (defArgs S_law_change) (defBody S_law_change) (defScope S_law_change) .none kV8 dc8 pm8 an8 cd8 ct8), sl8⟩) (c8 : PySem.W.codeIn K cd8 "_law_change" = true) (k8 : PySem.W.keepIn K (.ref f8) = true)
    (a9 : PySem.W.nsIn K mainGlobals "_law_book" = some (some (.ref f9))) (l9 : K.lookup f9 = some ⟨oc9, od9, .func (PySem.W.fnOf "_law_book" "_law_book" (defArgs S_law_book) (defBody S_law_book) (defScope S_law_book) .none kV9 dc9 pm9 an9 cd9 ct9), sl9⟩) (c9 : PySem.W.codeIn K cd9 "_law_book" = true) (k9 : PySem.W.keepIn K (.ref f9) = true)
    (a10 : PySem.W.nsIn K mainGlobals "_law_is_key" = some (some (.ref f10))) (l10 : K.lookup f10 = some ⟨oc10, od10, .func (PySem.W.fnOf "_law_is_key" "_law_is_key" (defArgs S_law_is_key) (defBody S_law_is_key) (defScope S_law_is_key) .none kV10 dc10 pm10 an10 cd10 ct10), sl10⟩) (c10 : PySem.W.codeIn K cd10 "_law_is_key" = true) (k10 : PySem.W.keepIn K (.ref f10) = true)
    (a11 : PySem.W.nsIn K mainGlobals "_law_is_worth" = some (some (.ref f11))) (l11 : K.lookup f11 = some ⟨oc11, od11, .func (PySem.W.fnOf "_law_is_worth" "_law_is_worth" (defArgs S_law_is_worth) (defBody S_law_is_worth) (defScope S_law_is_worth) .none kV11 dc11 pm11 an11 cd11 ct11), sl11⟩) (c11 : PySem.W.codeIn K cd11 "_law_is_worth" = true) (k11 : PySem.W.keepIn K (.ref f11) = true)
    (a12 : PySem.W.nsIn K mainGlobals "_law_is_book" = some (some (.ref f12))) (l12 : K.lookup f12 = some ⟨oc12, od12, .func (PySem.W.fnOf "_law_is_book" "_law_is_book" (defArgs S_law_is_book) (defBody S_law_is_book) (defScope S_law_is_book) .none kV12 dc12 pm12 an12 cd12 ct12), sl12⟩) (c12 : PySem.W.codeIn K cd12 "_law_is_book" = true) (k12 : PySem.W.keepIn K (.ref f12) = true)
    (a13 : PySem.W.nsIn K mainGlobals "_law_is_change" = some (some (.ref f13))) (l13 : K.lookup f13 = some ⟨oc13, od13, .func (PySem.W.fnOf "_law_is_change" "_law_is_change" (defArgs S_law_is_change) (defBody S_law_is_change) (defScope S_law_is_change) .none kV13 dc13 pm13 an13 cd13 ct13), sl13⟩) (c13 : PySem.W.codeIn K cd13 "_law_is_change" = true) (k13 : PySem.W.keepIn K (.ref f13) = true)
    (a14 : PySem.W.nsIn K mainGlobals "_law_spoilt" = some (some (.ref f14))) (l14 : K.lookup f14 = some ⟨oc14, od14, .func (PySem.W.fnOf "_law_spoilt" "_law_spoilt" (defArgs S_law_spoilt) (defBody S_law_spoilt) (defScope S_law_spoilt) .none kV14 dc14 pm14 an14 cd14 ct14), sl14⟩) (c14 : PySem.W.codeIn K cd14 "_law_spoilt" = true) (k14 : PySem.W.keepIn K (.ref f14) = true)
    (a15 : PySem.W.nsIn K mainGlobals "law" = some (some (.ref f15))) (l15 : K.lookup f15 = some ⟨oc15, od15, .func (PySem.W.fnOf "law" "law" (defArgs S_law) (defBody S_law) (defScope S_law) .none kV15 dc15 pm15 an15 cd15 ct15), sl15⟩) (c15 : PySem.W.codeIn K cd15 "law" = true) (k15 : PySem.W.keepIn K (.ref f15) = true)
    (qLETTERS : PySem.W.nsIn K mainGlobals "LETTERS" = some (some (.str "abcdefghijklmnopqrstuvwxyz" tLETTERS)))
    (qLONGEST : PySem.W.nsIn K mainGlobals "LONGEST" = some (some (.int 4 tLONGEST)))
    (qRING : PySem.W.nsIn K mainGlobals "RING" = some (some (.int 1000 tRING)))
    (qWITH_WORTH : PySem.W.nsIn K mainGlobals "WITH_WORTH" = some (some (.ref AWITH_WORTH))) (rWITH_WORTH : K.lookup AWITH_WORTH = some ⟨.type "tuple", none, .seq #[.str "put" tWITH_WORTH0, .str "add" tWITH_WORTH1, .str "keep" tWITH_WORTH2] nWITH_WORTH, slWITH_WORTH⟩)
    (zlen : PySem.W.nsIn K mainGlobals "len" = some none)
    (zisinstance : PySem.W.nsIn K mainGlobals "isinstance" = some none)
    (zstr : PySem.W.nsIn K mainGlobals "str" = some none)
    (zint : PySem.W.nsIn K mainGlobals "int" = some none)
    (zbool : PySem.W.nsIn K mainGlobals "bool" = some none)
    (ztuple : PySem.W.nsIn K mainGlobals "tuple" = some none)
    (zlist : PySem.W.nsIn K mainGlobals "list" = some none)
    (zall : PySem.W.nsIn K mainGlobals "all" = some none)
    (zrange : PySem.W.nsIn K mainGlobals "range" = some none)
    (zenumerate : PySem.W.nsIn K mainGlobals "enumerate" = some none)
    (zzip : PySem.W.nsIn K mainGlobals "zip" = some none)
    (zsorted : PySem.W.nsIn K mainGlobals "sorted" = some none)
    (zset : PySem.W.nsIn K mainGlobals "set" = some none)
    (zdict : PySem.W.nsIn K mainGlobals "dict" = some none)
    (zmin : PySem.W.nsIn K mainGlobals "min" = some none)
    (zmax : PySem.W.nsIn K mainGlobals "max" = some none)
    (zrepr : PySem.W.nsIn K mainGlobals "repr" = some none) :
    ∃ fd : FuncData, (∀ (s : Shared) (v : Value), BindsTo s fd ⟨[v], []⟩ [("script", v)]) ∧ ∀ base : Heap, K.In base → base.Ns mainGlobals mg → FnOk l.prog w K mg base CX0 5 fa fd ["script"] (spD K FLaw) := by
  have e := hfa.symm.trans (PySem.W.mg_of X G a15)
  cases e
  have B : Bt mg := ⟨PySem.W.mg_none_of X G zlen, PySem.W.mg_none_of X G zisinstance, PySem.W.mg_none_of X G zstr, PySem.W.mg_none_of X G zint, PySem.W.mg_none_of X G zbool, PySem.W.mg_none_of X G ztuple, PySem.W.mg_none_of X G zlist, PySem.W.mg_none_of X G zall, PySem.W.mg_none_of X G zrange, PySem.W.mg_none_of X G zenumerate, PySem.W.mg_none_of X G zzip, PySem.W.mg_none_of X G zsorted, PySem.W.mg_none_of X G zset, PySem.W.mg_none_of X G zdict, PySem.W.mg_none_of X G zmin, PySem.W.mg_none_of X G zmax, PySem.W.mg_none_of X G zrepr⟩
  have gLETTERS : GS mg "LETTERS" "abcdefghijklmnopqrstuvwxyz" := ⟨_, PySem.W.mg_of X G qLETTERS⟩
  have gLONGEST : GI mg "LONGEST" 4 := ⟨_, PySem.W.mg_of X G qLONGEST⟩
  have gRING : GI mg "RING" 1000 := ⟨_, PySem.W.mg_of X G qRING⟩
  have gWITH_WORTH : GT K mg "WITH_WORTH" [.str "put", .str "add", .str "keep"] := ⟨_, PySem.W.mg_of X G qWITH_WORTH, fun H => .tup (xs := [.str "put", .str "add", .str "keep"]) (.inr ⟨_, _, _, rWITH_WORTH, rfl, rfl, rfl, Nat.le_of_ble_eq_true rfl, (.cons ⟨_, rfl⟩ (.cons ⟨_, rfl⟩ (.cons ⟨_, rfl⟩ .nil)))⟩) (.cons (.str _) (.cons (.str _) (.cons (.str _) .nil)))⟩
  have F0 := fun_mk (st := S_is_key) l0 c0 k0
  have b0 := F0.binds (ps := ["thing"]) fun _ _ _ _ _ _ us hl => match us, hl with | [_], _ => rfl
  have Dis_key : Dfn K mg "is_key" S_is_key ["thing"] := ⟨_, _, F0, PySem.W.mg_of X G a0, b0⟩
  have F1 := fun_mk (st := S_is_worth) l1 c1 k1
  have b1 := F1.binds (ps := ["thing"]) fun _ _ _ _ _ _ us hl => match us, hl with | [_], _ => rfl
  have Dis_worth : Dfn K mg "is_worth" S_is_worth ["thing"] := ⟨_, _, F1, PySem.W.mg_of X G a1, b1⟩
  have F2 := fun_mk (st := S_is_pair) l2 c2 k2
  have b2 := F2.binds (ps := ["thing"]) fun _ _ _ _ _ _ us hl => match us, hl with | [_], _ => rfl
  have Dis_pair : Dfn K mg "is_pair" S_is_pair ["thing"] := ⟨_, _, F2, PySem.W.mg_of X G a2, b2⟩
  have F3 := fun_mk (st := S_is_book) l3 c3 k3
  have b3 := F3.binds (ps := ["thing"]) fun _ _ _ _ _ _ us hl => match us, hl with | [_], _ => rfl
  have Dis_book : Dfn K mg "is_book" S_is_book ["thing"] := ⟨_, _, F3, PySem.W.mg_of X G a3, b3⟩
  have F4 := fun_mk (st := S_is_change) l4 c4 k4
  have b4 := F4.binds (ps := ["thing"]) fun _ _ _ _ _ _ us hl => match us, hl with | [_], _ => rfl
  have Dis_change : Dfn K mg "is_change" S_is_change ["thing"] := ⟨_, _, F4, PySem.W.mg_of X G a4, b4⟩
  have F5 := fun_mk (st := S_law_cell_at) l5 c5 k5
  have b5 := F5.binds (ps := ["script", "k"]) fun _ _ _ _ _ _ us hl => match us, hl with | [_, _], _ => rfl
  have D_law_cell_at : Dfn K mg "_law_cell_at" S_law_cell_at ["script", "k"] := ⟨_, _, F5, PySem.W.mg_of X G a5, b5⟩
  have F6 := fun_mk (st := S_law_mixed) l6 c6 k6
  have b6 := F6.binds (ps := ["script", "k"]) fun _ _ _ _ _ _ us hl => match us, hl with | [_, _], _ => rfl
  have D_law_mixed : Dfn K mg "_law_mixed" S_law_mixed ["script", "k"] := ⟨_, _, F6, PySem.W.mg_of X G a6, b6⟩
  have F7 := fun_mk (st := S_law_drawn) l7 c7 k7
  have b7 := F7.binds (ps := ["number", "k"]) fun _ _ _ _ _ _ us hl => match us, hl with | [_, _], _ => rfl
  have D_law_drawn : Dfn K mg "_law_drawn" S_law_drawn ["number", "k"] := ⟨_, _, F7, PySem.W.mg_of X G a7, b7⟩
  have F8 := fun_mk (st := S_law_change) l8 c8 k8
  have b8 := F8.binds (ps := ["number", "many"]) fun _ _ _ _ _ _ us hl => match us, hl with | [_, _], _ => rfl
  have D_law_change : Dfn K mg "_law_change" S_law_change ["number", "many"] := ⟨_, _, F8, PySem.W.mg_of X G a8, b8⟩
  have F9 := fun_mk (st := S_law_book) l9 c9 k9
  have b9 := F9.binds (ps := ["number"]) fun _ _ _ _ _ _ us hl => match us, hl with | [_], _ => rfl
  have D_law_book : Dfn K mg "_law_book" S_law_book ["number"] := ⟨_, _, F9, PySem.W.mg_of X G a9, b9⟩
  have F10 := fun_mk (st := S_law_is_key) l10 c10 k10
  have b10 := F10.binds (ps := ["thing"]) fun _ _ _ _ _ _ us hl => match us, hl with | [_], _ => rfl
  have D_law_is_key : Dfn K mg "_law_is_key" S_law_is_key ["thing"] := ⟨_, _, F10, PySem.W.mg_of X G a10, b10⟩
  have F11 := fun_mk (st := S_law_is_worth) l11 c11 k11
  have b11 := F11.binds (ps := ["thing"]) fun _ _ _ _ _ _ us hl => match us, hl with | [_], _ => rfl
  have D_law_is_worth : Dfn K mg "_law_is_worth" S_law_is_worth ["thing"] := ⟨_, _, F11, PySem.W.mg_of X G a11, b11⟩
  have F12 := fun_mk (st := S_law_is_book) l12 c12 k12
  have b12 := F12.binds (ps := ["thing"]) fun _ _ _ _ _ _ us hl => match us, hl with | [_], _ => rfl
  have D_law_is_book : Dfn K mg "_law_is_book" S_law_is_book ["thing"] := ⟨_, _, F12, PySem.W.mg_of X G a12, b12⟩
  have F13 := fun_mk (st := S_law_is_change) l13 c13 k13
  have b13 := F13.binds (ps := ["thing"]) fun _ _ _ _ _ _ us hl => match us, hl with | [_], _ => rfl
  have D_law_is_change : Dfn K mg "_law_is_change" S_law_is_change ["thing"] := ⟨_, _, F13, PySem.W.mg_of X G a13, b13⟩
  have F14 := fun_mk (st := S_law_spoilt) l14 c14 k14
  have b14 := F14.binds (ps := ["thing", "number", "deep"]) fun _ _ _ _ _ _ us hl => match us, hl with | [_, _, _], _ => rfl
  have D_law_spoilt : Dfn K mg "_law_spoilt" S_law_spoilt ["thing", "number", "deep"] := ⟨_, _, F14, PySem.W.mg_of X G a14, b14⟩
  have F15 := fun_mk (st := S_law) l15 c15 k15
  refine ⟨PySem.W.fnOf "law" "law" (defArgs S_law) (defBody S_law) (defScope S_law) .none kV15 dc15 pm15 an15 cd15 ct15, fun s v => .of_eq rfl, fun base _ _ => ?_⟩
  have dis_key := ok_is_key (P := l.prog) (w := w) (base := base) Dis_key B gLETTERS gLONGEST
  have dis_worth := ok_is_worth (P := l.prog) (w := w) (base := base) Dis_worth B gRING
  have dis_pair := ok_is_pair (P := l.prog) (w := w) (base := base) Dis_pair B dis_key dis_worth
  have dis_book := ok_is_book (P := l.prog) (w := w) (base := base) Dis_book B dis_pair
  have dis_change := ok_is_change (P := l.prog) (w := w) (base := base) Dis_change B gWITH_WORTH dis_key dis_worth
  have d_law_cell_at := ok_law_cell_at (P := l.prog) (w := w) (base := base) D_law_cell_at B
  have d_law_mixed := ok_law_mixed (P := l.prog) (w := w) (base := base) D_law_mixed d_law_cell_at
  have d_law_drawn := ok_law_drawn (P := l.prog) (w := w) (base := base) D_law_drawn
  have d_law_change := ok_law_change (P := l.prog) (w := w) (base := base) D_law_change
  have d_law_book := ok_law_book (P := l.prog) (w := w) (base := base) D_law_book B d_law_drawn
  have d_law_is_key := ok_law_is_key (P := l.prog) (w := w) (base := base) D_law_is_key B
  have d_law_is_worth := ok_law_is_worth (P := l.prog) (w := w) (base := base) D_law_is_worth B
  have d_law_is_book := ok_law_is_book (P := l.prog) (w := w) (base := base) D_law_is_book B d_law_is_key d_law_is_worth
  have d_law_is_change := ok_law_is_change (P := l.prog) (w := w) (base := base) D_law_is_change B d_law_is_key d_law_is_worth
  have d_law_spoilt := ok_law_spoilt (P := l.prog) (w := w) (base := base) D_law_spoilt B d_law_drawn
  exact ok_law F15 B d_law_mixed d_law_book d_law_change (d_law_spoilt 2) dis_book d_law_is_book dis_change d_law_is_change
end AB
open PySem PySem.W PyProof.Rows
set_option maxRecDepth 100000 in
set_option maxHeartbeats 0 in
theorem PySem.Challenge.cw_awaybook_k01_books_and_changes_holds : PySem.Challenge.rw_awaybook_k01_books_and_changes.Holds := by
  w_on; o_law; k_head; (case hw => w_witness2)
  k_fill
  refine L2.walk_ofK (l := PySem.Challenge.rw_awaybook_k01_books_and_changes) (n := 63) (k := 5) (x := "script") (CX := L2.CX0) (sp := fun K => AB.spD K AB.FLaw) rfl (by decide) rfl ⟨rfl, by decide, by decide⟩ (fun w h Y => PySem.W.kIn_of Y) ?F (fun K H a ns hl hO hS => AB.law_sp K H a ns hl hO hS) (fun _ _ _ _ h => h)
  case F =>
    intro w mg fa h KX G hmg
    refine' AB.all_mk KX G hmg ?a0 ?l0 ?c0 ?k0 ?a1 ?l1 ?c1 ?k1 ?a2 ?l2 ?c2 ?k2 ?a3 ?l3 ?c3 ?k3 ?a4 ?l4 ?c4 ?k4 ?a5 ?l5 ?c5 ?k5 ?a6 ?l6 ?c6 ?k6 ?a7 ?l7 ?c7 ?k7 ?a8 ?l8 ?c8 ?k8 ?a9 ?l9 ?c9 ?k9 ?a10 ?l10 ?c10 ?k10 ?a11 ?l11 ?c11 ?k11 ?a12 ?l12 ?c12 ?k12 ?a13 ?l13 ?c13 ?k13 ?a14 ?l14 ?c14 ?k14 ?a15 ?l15 ?c15 ?k15 ?qLETTERS ?qLONGEST ?qRING ?qWITH_WORTH ?rWITH_WORTH ?zlen ?zisinstance ?zstr ?zint ?zbool ?ztuple ?zlist ?zall ?zrange ?zenumerate ?zzip ?zsorted ?zset ?zdict ?zmin ?zmax ?zrepr
    (case a0 => k_is); (case l0 => k_is); (case c0 => k_is); (case k0 => k_is); (case a1 => k_is); (case l1 => k_is); (case c1 => k_is); (case k1 => k_is)
    (case a2 => k_is); (case l2 => k_is); (case c2 => k_is); (case k2 => k_is); (case a3 => k_is); (case l3 => k_is); (case c3 => k_is); (case k3 => k_is)
    (case a4 => k_is); (case l4 => k_is); (case c4 => k_is); (case k4 => k_is); (case a5 => k_is); (case l5 => k_is); (case c5 => k_is); (case k5 => k_is)
    (case a6 => k_is); (case l6 => k_is); (case c6 => k_is); (case k6 => k_is); (case a7 => k_is); (case l7 => k_is); (case c7 => k_is); (case k7 => k_is)
    (case a8 => k_is); (case l8 => k_is); (case c8 => k_is); (case k8 => k_is); (case a9 => k_is); (case l9 => k_is); (case c9 => k_is); (case k9 => k_is)
    (case a10 => k_is); (case l10 => k_is); (case c10 => k_is); (case k10 => k_is); (case a11 => k_is); (case l11 => k_is); (case c11 => k_is); (case k11 => k_is)
    (case a12 => k_is); (case l12 => k_is); (case c12 => k_is); (case k12 => k_is); (case a13 => k_is); (case l13 => k_is); (case c13 => k_is); (case k13 => k_is)
    (case a14 => k_is); (case l14 => k_is); (case c14 => k_is); (case k14 => k_is); (case a15 => k_is); (case l15 => k_is); (case c15 => k_is); (case k15 => k_is)
    (case qLETTERS => k_is); (case qLONGEST => k_is); (case qRING => k_is); (case qWITH_WORTH => k_is); (case rWITH_WORTH => k_is); (case zlen => k_is); (case zisinstance => k_is); (case zstr => k_is)
    (case zint => k_is); (case zbool => k_is); (case ztuple => k_is); (case zlist => k_is); (case zall => k_is); (case zrange => k_is); (case zenumerate => k_is); (case zzip => k_is)
    (case zsorted => k_is); (case zset => k_is); (case zdict => k_is); (case zmin => k_is); (case zmax => k_is); (case zrepr => k_is)
