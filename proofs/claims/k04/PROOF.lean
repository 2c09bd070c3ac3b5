import PyProof.Rows.All
import HandS.ForMost
import HandS.IsInst
import HandS.Flow
import HandS.More
import HandS.Text
import KE.SortData
import HandS.SortRule
import HandS.Rev
import PySem.Challenge.RW_eacharm_k04_least_causes_all_told
set_option Elab.async false
set_option linter.all false
set_option maxRecDepth 100000
set_option maxHeartbeats 8000000
namespace EA
open PySem PySem.Spec PyProof.Rows L2

/-! ### data in a part of the heap: G holds the data, H all; what is changed stays out of G -/
mutual
inductive Dat (G : Hp) : V → PyData → Prop
  | non : Dat G .non .none
  | bl (b : Bool) : Dat G (.bl b) (.bool b)
  | int (i : Int) : Dat G (.int i) (.int i)
  | str (x : Str) : Dat G (.str x) (.str x)
  | lst {a : Addr} {xs : List V} {ds : List PyData} : G a = some (.lst xs) → DatA G xs ds → Dat G (.ref a) (.list ds)
  | tup {a : Addr} {xs : List V} {ds : List PyData} : G a = some (.tup xs) → DatA G xs ds → Dat G (.ref a) (.tuple ds)
inductive DatA (G : Hp) : List V → List PyData → Prop
  | nil : DatA G [] []
  | cons {v : V} {vs : List V} {d : PyData} {ds : List PyData} : Dat G v d → DatA G vs ds → DatA G (v :: vs) (d :: ds)
end
section
variable {G G' H : Hp} {K : PySem.W.Frag}
mutual
theorem Dat.up (s : Same G G') : ∀ {d : PyData} {v : V}, Dat G v d → Dat G' v d
  | .none, _, .non => .non
  | .bool _, _, .bl b => .bl b
  | .int _, _, .int i => .int i
  | .str _, _, .str x => .str x
  | .list _, _, .lst e h => .lst (s _ _ e) (DatA.up s h)
  | .tuple _, _, .tup e h => .tup (s _ _ e) (DatA.up s h)
theorem DatA.up (s : Same G G') : ∀ {ds : List PyData} {vs : List V}, DatA G vs ds → DatA G' vs ds
  | [], _, .nil => .nil
  | _ :: _, _, .cons h t => .cons (Dat.up s h) (DatA.up s t)
end
mutual
theorem Dat.dp : ∀ {d : PyData} {v : V}, Dat G v d → Dp K G v d
  | .none, _, .non => .non
  | .bool _, _, .bl b => .bl b
  | .int _, _, .int i => .int i
  | .str _, _, .str x => .str x
  | .list _, _, .lst e h => .lst (SqL.of e) (DatA.dp h)
  | .tuple _, _, .tup e h => .tup (SqT.of e) (DatA.dp h)
theorem DatA.dp : ∀ {ds : List PyData} {vs : List V}, DatA G vs ds → DpAll K G vs ds
  | [], _, .nil => .nil
  | _ :: _, _, .cons h t => .cons (Dat.dp h) (DatA.dp t)
end
theorem Dat.dpS {d : PyData} {v : V} (h : Dat G v d) (s : Same G H) : Dp K H v d := (h.up s).dp
theorem DatA.len : ∀ {vs : List V} {ds : List PyData}, DatA G vs ds → vs.length = ds.length
  | _, _, .nil => rfl
  | _, _, .cons _ t => by rw [List.length_cons, List.length_cons, DatA.len t]
theorem DatA.get : ∀ {vs : List V} {ds : List PyData} {i : Nat} {d : PyData}, DatA G vs ds → ds[i]? = some d → ∃ v, vs[i]? = some v ∧ Dat G v d
  | _, _, _, _, .nil, e => by simp at e
  | _, _, 0, _, .cons h _, e => by simp at e; subst e; exact ⟨_, rfl, h⟩
  | _, _, i + 1, d, .cons _ t, e => by
    obtain ⟨v, h1, h2⟩ := DatA.get (i := i) (d := d) t (by simpa using e)
    exact ⟨v, by simpa using h1, h2⟩
theorem DatA.getV : ∀ {vs : List V} {ds : List PyData} {i : Nat} {v : V}, DatA G vs ds → vs[i]? = some v → ∃ d, ds[i]? = some d ∧ Dat G v d
  | _, _, _, _, .nil, e => by simp at e
  | _, _, 0, _, .cons h _, e => by simp at e; subst e; exact ⟨_, rfl, h⟩
  | _, _, i + 1, v, .cons _ t, e => by
    obtain ⟨d, h1, h2⟩ := DatA.getV (i := i) (v := v) t (by simpa using e)
    exact ⟨d, by simpa using h1, h2⟩
theorem DatA.app : ∀ {vs ws : List V} {ds es : List PyData}, DatA G vs ds → DatA G ws es → DatA G (vs ++ ws) (ds ++ es)
  | _, _, _, _, .nil, h => h
  | _, _, _, _, .cons h t, h2 => .cons h (DatA.app t h2)
theorem DatA.take : ∀ {vs : List V} {ds : List PyData} (n : Nat), DatA G vs ds → DatA G (vs.take n) (ds.take n)
  | _, _, 0, _ => .nil
  | _, _, _ + 1, .nil => .nil
  | _, _, n + 1, .cons h t => .cons h (DatA.take n t)
theorem DatA.drop : ∀ {vs : List V} {ds : List PyData} (n : Nat), DatA G vs ds → DatA G (vs.drop n) (ds.drop n)
  | _, _, 0, h => h
  | _, _, _ + 1, .nil => .nil
  | _, _, n + 1, .cons _ t => DatA.drop n t
theorem DatA.erase : ∀ {vs : List V} {ds : List PyData} (n : Nat), DatA G vs ds → DatA G (vs.eraseIdx n) (ds.eraseIdx n)
  | _, _, _, .nil => .nil
  | _, _, 0, .cons _ t => t
  | _, _, n + 1, .cons h t => .cons h (DatA.erase n t)
theorem DatA.last : ∀ {ds : List PyData} {vs : List V} {d : PyData}, DatA G vs (ds ++ [d]) → ∃ vs' u, vs = vs' ++ [u] ∧ DatA G vs' ds ∧ Dat G u d
  | [], _, _, .cons h .nil => ⟨[], _, rfl, .nil, h⟩
  | _ :: r, _, d, .cons h t => by
    obtain ⟨vs', u, e, h1, h2⟩ := DatA.last (ds := r) (d := d) t
    exact ⟨_ :: vs', u, by rw [e]; rfl, .cons h h1, h2⟩
theorem DatA.bls : ∀ (bs : List Bool), DatA G (bs.map V.bl) (bs.map PyData.bool)
  | [] => .nil
  | b :: r => .cons (.bl b) (DatA.bls r)
theorem DatA.ints : ∀ (bs : List Int), DatA G (bs.map V.int) (bs.map PyData.int)
  | [] => .nil
  | b :: r => .cons (.int b) (DatA.ints r)
theorem DatA.strs : ∀ (bs : List Str), DatA G (bs.map V.str) (bs.map PyData.str)
  | [] => .nil
  | b :: r => .cons (.str b) (DatA.strs r)
theorem DatA.bls_inv : ∀ {bs : List Bool} {vs : List V}, DatA G vs (bs.map PyData.bool) → vs = bs.map V.bl
  | [], _, .nil => rfl
  | _ :: _, _, .cons (.bl _) t => by rw [List.map_cons, DatA.bls_inv t]
theorem DatA.ints_inv : ∀ {bs : List Int} {vs : List V}, DatA G vs (bs.map PyData.int) → vs = bs.map V.int
  | [], _, .nil => rfl
  | _ :: _, _, .cons (.int _) t => by rw [List.map_cons, DatA.ints_inv t]
theorem DatA.strs_inv : ∀ {bs : List Str} {vs : List V}, DatA G vs (bs.map PyData.str) → vs = bs.map V.str
  | [], _, .nil => rfl
  | _ :: _, _, .cons (.str _) t => by rw [List.map_cons, DatA.strs_inv t]
theorem Dat.list_inv {v : V} {ds : List PyData} (h : Dat G v (.list ds)) : ∃ a xs, v = .ref a ∧ G a = some (.lst xs) ∧ DatA G xs ds := by
  cases h with
  | lst e t => exact ⟨_, _, rfl, e, t⟩
theorem Dat.tup_inv {v : V} {ds : List PyData} (h : Dat G v (.tuple ds)) : ∃ a xs, v = .ref a ∧ G a = some (.tup xs) ∧ DatA G xs ds := by
  cases h with
  | tup e t => exact ⟨_, _, rfl, e, t⟩
theorem Dat.int_inv {v : V} {i : Int} (h : Dat G v (.int i)) : v = .int i := by cases h; rfl
theorem Dat.bool_inv {v : V} {i : Bool} (h : Dat G v (.bool i)) : v = .bl i := by cases h; rfl
theorem Dat.str_inv {v : V} {i : Str} (h : Dat G v (.str i)) : v = .str i := by cases h; rfl
end

/-! ### from one state to a later one: only objects of M and new ones are changed -/
structure Ex (M : List Addr) (G H G' H' : Hp) : Prop where
  gg : Same G G'
  gh : Same G' H'
  hh : ∀ b o, b ∉ M → H b = some o → H' b = some o
  nw : ∀ b, G b = none → H b ≠ none → G' b = none
  dm : ∀ b, H b ≠ none → H' b ≠ none
section
variable {M M' : List Addr} {G H G1 H1 G2 H2 : Hp} {p : Addr} {o : HO}
theorem Same.none {H H' : Hp} (s : Same H H') {p : Addr} (h : H' p = none) : H p = none := s.free h
theorem Ex.refl (s : Same G H) : Ex M G H G H := ⟨Same.refl _, s, fun _ _ _ h => h, fun _ h _ => h, fun _ h => h⟩
theorem Ex.step (a : Ex M G H G1 H1) (b : Ex M' G1 H1 G2 H2) (m : ∀ x ∈ M', x ∈ M ∨ H x = none) : Ex M G H G2 H2 where
  gg := a.gg.trans b.gg
  gh := b.gh
  hh := fun x o hx e => b.hh x o (fun z => (m x z).elim hx fun n => by rw [n] at e; cases e) (a.hh x o hx e)
  nw := fun x g h => b.nw x (a.nw x g h) (a.dm x h)
  dm := fun x h => b.dm x (a.dm x h)
theorem Ex.trans (a : Ex M G H G1 H1) (b : Ex M G1 H1 G2 H2) : Ex M G H G2 H2 := a.step b fun _ h => .inl h
theorem Ex.pure (a : Ex M G H G1 H1) (b : Ex [] G1 H1 G2 H2) : Ex M G H G2 H2 := a.step b fun _ h => nomatch h
theorem Ex.mono (a : Ex M G H G1 H1) (m : ∀ x ∈ M, x ∈ M' ∨ H x = none) : Ex M' G H G1 H1 :=
  ⟨a.gg, a.gh, fun x o hx e => a.hh x o (fun z => (m x z).elim hx fun n => by rw [n] at e; cases e) e, a.nw, a.dm⟩
theorem Ex.of0 (a : Ex [] G H G1 H1) : Ex M G H G1 H1 := a.mono fun _ h => nomatch h
theorem Ex.same (a : Ex [] G H G1 H1) : Same H H1 := fun b o e => a.hh b o (fun z => nomatch z) e
/- a new object that is not data -/
theorem Ex.new (a : Ex M G H G1 H1) (n : H1 p = none) : Ex M G H G1 (upd H1 p o) where
  gg := a.gg
  gh := fun b u e => by rw [upd_ne (ne_of_none (a.gh b u e) n)]; exact a.gh b u e
  hh := fun b u hb e => by rw [upd_ne (ne_of_none (a.hh b u hb e) n)]; exact a.hh b u hb e
  nw := a.nw
  dm := fun b h => by
    have q := a.dm b h
    by_cases e : b = p
    · subst e; exact absurd n q
    · rw [upd_ne e]; exact q
/- a new object that is data -/
theorem Ex.dat (a : Ex M G H G1 H1) (n : H1 p = none) : Ex M G H (upd G1 p o) (upd H1 p o) where
  gg := fun b u e => by rw [upd_ne (ne_of_none (a.gg b u e) (a.gh.free n))]; exact a.gg b u e
  gh := fun b u e => by
    by_cases z : b = p
    · subst z; rw [upd_same] at e ⊢; exact e
    · rw [upd_ne z] at e ⊢; exact a.gh b u e
  hh := fun b u hb e => by rw [upd_ne (ne_of_none (a.hh b u hb e) n)]; exact a.hh b u hb e
  nw := fun b g h => by
    have q := a.dm b h
    rw [upd_ne (fun e => q (by rw [e]; exact n))]
    exact a.nw b g h
  dm := fun b h => by
    have q := a.dm b h
    by_cases e : b = p
    · subst e; exact absurd n q
    · rw [upd_ne e]; exact q
/- an object that is changed: of M, or made since -/
theorem Ex.wr (a : Ex M G H G1 H1) (g : G1 p = none) (m : p ∈ M ∨ H p = none) : Ex M G H G1 (upd H1 p o) where
  gg := a.gg
  gh := fun b u e => by rw [upd_ne (ne_of_none e g)]; exact a.gh b u e
  hh := fun b u hb e => by
    have z : b ≠ p := fun z => by
      subst z
      rcases m with m | m
      · exact hb m
      · rw [m] at e; cases e
    rw [upd_ne z]; exact a.hh b u hb e
  nw := a.nw
  dm := fun b h => by
    by_cases e : b = p
    · subst e; rw [upd_same]; exact fun z => nomatch z
    · rw [upd_ne e]; exact a.dm b h
/- an object made since becomes data -/
theorem Ex.fix (a : Ex M G H G1 H1) (g : G1 p = none) (h : H1 p = some o) (n : H p = none) : Ex M G H (upd G1 p o) H1 where
  gg := fun b u e => by rw [upd_ne (ne_of_none (a.gg b u e) g)]; exact a.gg b u e
  gh := fun b u e => by
    by_cases z : b = p
    · subst z; rw [upd_same] at e; rw [h]; exact e
    · rw [upd_ne z] at e; exact a.gh b u e
  hh := a.hh
  nw := fun b g' h' => by rw [upd_ne (fun z => h' (by rw [z]; exact n))]; exact a.nw b g' h'
  dm := a.dm
theorem Ex.free (a : Ex M G H G1 H1) {q : Addr} (h : H1 q = none) : H q = none := by
  cases e : H q with
  | none => rfl
  | some u => exact absurd h (a.dm q (by rw [e]; exact fun z => nomatch z))
theorem Ex.at_ (a : Ex M G H G1 H1) {q : Addr} {u : HO} (h : H q = some u) (m : q ∉ M) : H1 q = some u := a.hh q u m h
theorem Ex.out (a : Ex M G H G1 H1) {q : Addr} {u : HO} (g : G q = none) (h : H q = some u) : G1 q = none := a.nw q g (by rw [h]; exact fun z => nomatch z)
end
section
variable {G : Hp} {p : Addr} {xs : List V} {ds : List PyData}
theorem same_updG {o : HO} (n : G p = none) : Same G (upd G p o) := fun b u e => by rw [upd_ne (ne_of_none e n)]; exact e
theorem Dat.newT (h : DatA G xs ds) (n : G p = none) : Dat (upd G p (.tup xs)) (.ref p) (.tuple ds) := .tup upd_same (h.up (same_updG n))
theorem Dat.newL (h : DatA G xs ds) (n : G p = none) : Dat (upd G p (.lst xs)) (.ref p) (.list ds) := .lst upd_same (h.up (same_updG n))
end

/-! ### a pure def: from data to data -/
/- the wish behind a pure call -/
abbrev Aft (M : List Addr) (G H : Hp) (Q : VK) (d : PyData) : Prop := ∀ G' H' r, Ex M G H G' H' → Dat G' r d → Q r H'

/-! ### rules of our own -/
section
variable {X : Cx}
/- is, is not: a value against None or a bool -/
def plainC : V → Bool
  | .non => true
  | .bl _ => true
  | _ => false
theorem RelV.same_iff {x y : V} {v u : Value} (rx : RelV x v) (ry : RelV y u) (p : plainC y = true) : plainIs v u = true ∧ (v == u) = decide (x = y) := by
  cases y with
  | non =>
    cases ry
    cases x <;> first
      | (cases rx; exact ⟨rfl, rfl⟩)
      | (obtain ⟨t, rfl⟩ := rx; exact ⟨rfl, rfl⟩)
  | bl b =>
    cases ry
    cases x with
    | bl c =>
      cases rx
      refine ⟨rfl, ?_⟩
      cases b <;> cases c <;> rfl
    | non => cases rx; exact ⟨rfl, rfl⟩
    | ref _ => cases rx; exact ⟨rfl, rfl⟩
    | ty _ => cases rx; exact ⟨rfl, rfl⟩
    | int _ => obtain ⟨t, rfl⟩ := rx; exact ⟨rfl, rfl⟩
    | str _ => obtain ⟨t, rfl⟩ := rx; exact ⟨rfl, rfl⟩
    | byt _ => obtain ⟨t, rfl⟩ := rx; exact ⟨rfl, rfl⟩
    | flt _ => obtain ⟨t, rfl⟩ := rx; exact ⟨rfl, rfl⟩
  | _ => exact absurd (show false = true from p) Bool.false_ne_true
def rIsC : R2 := fun x y H Q => plainC y = true ∧ Q (.bl (decide (x = y))) H
def rIsNotC : R2 := fun x y H Q => plainC y = true ∧ Q (.bl (!decide (x = y))) H
theorem op_isC : OpR X (compareOp .Is) rIsC := by
  intro pins s σ H x y v u Q I rx ry h
  obtain ⟨p, q⟩ := h
  obtain ⟨e1, e2⟩ := RelV.same_iff rx ry p
  exact wpAny_is_plain e1 (fin_bl I q e2.symm)
theorem op_isnotC : OpR X (compareOp .IsNot) rIsNotC := by
  intro pins s σ H x y v u Q I rx ry h
  obtain ⟨p, q⟩ := h
  obtain ⟨e1, e2⟩ := RelV.same_iff rx ry p
  exact wpAny_isNot_plain e1 (fin_bl I q (by rw [e2]))
/- two ints or two texts -/
def rLtA : R2 := fun x y H Q => (∃ i j, x = .int i ∧ y = .int j ∧ Q (.bl (decide (i < j))) H) ∨ (∃ i j, x = .str i ∧ y = .str j ∧ Q (.bl (decide (i.cps.toList < j.cps.toList))) H)
theorem op_ltA : OpR X (compareOp .Lt) rLtA := OpR.or op_lt op_lt_str
def rGtA : R2 := fun x y H Q => (∃ i j, x = .int i ∧ y = .int j ∧ Q (.bl (decide (j < i))) H) ∨ (∃ i j, x = .str i ∧ y = .str j ∧ Q (.bl (decide (j.cps.toList < i.cps.toList))) H)
theorem op_gtA : OpR X (compareOp .Gt) rGtA := OpR.or op_gt op_gt_str
def rLeA : R2 := fun x y H Q => (∃ i j, x = .int i ∧ y = .int j ∧ Q (.bl (decide (i ≤ j))) H) ∨ (∃ i j, x = .str i ∧ y = .str j ∧ Q (.bl (!decide (j.cps.toList < i.cps.toList))) H)
theorem op_leA : OpR X (compareOp .LtE) rLeA := OpR.or op_le op_le_str
def rGeA : R2 := fun x y H Q => (∃ i j, x = .int i ∧ y = .int j ∧ Q (.bl (decide (j ≤ i))) H) ∨ (∃ i j, x = .str i ∧ y = .str j ∧ Q (.bl (!decide (i.cps.toList < j.cps.toList))) H)
theorem op_geA : OpR X (compareOp .GtE) rGeA := OpR.or op_ge op_ge_str
/- +: ints, texts, lists, tuples -/
def rAddA (K : PySem.W.Frag) : R2 := fun x y H Q => (∃ i j, x = .int i ∧ y = .int j ∧ Q (.int (i + j)) H) ∨ (∃ i j, x = .str i ∧ y = .str j ∧ i.length + j.length ≤ sizeLine ∧ Q (.str (i ++ j)) H) ∨ rCat x y H Q ∨ rCatT K x y H Q
theorem op_addA : OpR X (binaryOp .Add) (rAddA X.K) := OpR.or op_add (OpR.or op_add_str (OpR.or op_cat op_catT))
def rSlA (K : PySem.W.Frag) : V → Option Int → Option Int → Hp → VK → Prop := fun x lo hi H Q => rSlL K x lo hi H Q ∨ rSlT K x lo hi H Q ∨ rSlS x lo hi H Q
theorem sl_any : SlR X (rSlA X.K) := SlR.or sl_list (SlR.or sl_tup sl_str)
theorem op_inA : OpR X (compareOp .In) (rIn X.K false) := op_in_seq
theorem op_notInA : OpR X (compareOp .NotIn) (rIn X.K true) := op_notIn_seq
theorem pe_notT' {a : Expr} {ta : TE} {pos : Pos} (ha : PE X a ta) : PE X (.UnaryOp .Not a pos) (tNotT X.K ta) := pe_notT ha
/- min of two texts -/
def strItems (xs : Array (Str × Tok)) : Array Value := xs.map fun p => .str p.1 p.2
theorem min_two_strs {P : Program} {w : World} {A : Around} {E : Value → Shared → Prop} {s : Shared} {a b : Str} {t u : Tok} {Q : Value → Shared → Prop} (hh : A.handled = none)
    (h : ∀ h' tk, (∀ c o, s.heap.get? c = some o → h'.get? c = some o) → Q (if b.cps.toList < a.cps.toList then .str b u else .str a t) { s with heap := h', toks := tk }) :
    wpAny (model P w) A (call (.builtin "min") [.str a t, .str b u]) Q E s := by
  have hT : (s.heap.push { cls := .type "tuple", data := .seq #[.str a t, .str b u] }).IsTuple s.heap.objs.size #[.str a t, .str b u] := ⟨_, Heap.get?_push_size _ rfl, rfl, 0, rfl⟩
  refine call_min_two (wpAny_pyIter_tuple hT ?_)
  have hsz : (s.heap.push { cls := .type "tuple", data := .seq #[.str a t, .str b u] }).objs.size = s.heap.objs.size + 1 := Heap.size_push ..
  refine ⟨_, [_, s.heap.objs.size], [_], _, _, _, fun i j => decide ((if i = 0 then a else b).cps.toList < (if j = 0 then a else b).cps.toList), rfl, Walks.tuple (A := A.in1) hh _ s.heap.objs.size (by rw [hsz]; exact Nat.ne_of_lt (Nat.lt_succ_self _)) #[.str a t, .str b u],
    ⟨⟨_, Heap.get?_push_size _ rfl, rfl, rfl⟩, hT.push _⟩, fun c hc => ?_, (by show 0 < 2; decide), ?_, fun v h' tk hP hk => ?_⟩
  · show c < ((s.heap.push _).push _).objs.size
    rw [Heap.size_push, hsz]
    rcases List.mem_cons.mp hc with rfl | hc
    · rw [hsz]; exact Nat.lt_succ_self _
    · rcases List.mem_cons.mp hc with rfl | hc
      · exact Nat.lt_succ_of_lt (Nat.lt_succ_self _)
      · cases hc
  · intro i j vi vj s' Q' E' hi hj hq
    have two : ∀ (k : Nat) (v : Value), (#[Value.str a t, .str b u] : Array Value)[k]? = some v → ∃ tk, v = .str (if k = 0 then a else b) tk := fun k v e => by
      match k, e with
      | 0, e => exact ⟨t, (Option.some.inj e).symm⟩
      | 1, e => exact ⟨u, (Option.some.inj e).symm⟩
      | k + 2, e => cases e
    obtain ⟨t1, rfl⟩ := two i vi hi
    obtain ⟨t2, rfl⟩ := two j vj hj
    exact lt_str hq
  · have hold : ∀ c o, s.heap.get? c = some o → h'.get? c = some o := fun c o e => by
      refine hk c o (fun hm => ?_) (Heap.get?_push_of_some _ (Heap.get?_push_of_some _ e))
      rcases List.mem_cons.mp hm with e1 | hm
      · have := Heap.lt_size e; rw [e1, hsz] at this; exact Nat.lt_irrefl _ (Nat.lt_of_succ_lt this)
      · cases hm
    have hv : v = if b.cps.toList < a.cps.toList then Value.str b u else Value.str a t := by
      have hP' : (#[Value.str a t, .str b u] : Array Value)[argBest (fun i j => decide ((if i = 0 then a else b).cps.toList < (if j = 0 then a else b).cps.toList)) 1]? = some v := hP
      by_cases hba : b.cps.toList < a.cps.toList
      · rw [if_pos hba]
        have e : argBest (fun i j => decide ((if i = 0 then a else b).cps.toList < (if j = 0 then a else b).cps.toList)) 1 = 1 := by
          simp [argBest, hba]
        rw [e] at hP'
        exact (Option.some.inj hP').symm
      · rw [if_neg hba]
        have e : argBest (fun i j => decide ((if i = 0 then a else b).cps.toList < (if j = 0 then a else b).cps.toList)) 1 = 0 := by
          simp [argBest, hba]
        rw [e] at hP'
        exact (Option.some.inj hP').symm
    rw [hv]
    exact h h' tk hold
def rMin2 : List V → Hp → VK → Prop := fun xs H Q => (∃ i j, xs = [.int i, .int j] ∧ Q (.int (if j < i then j else i)) H) ∨ (∃ i j, xs = [.str i, .str j] ∧ Q (.str (if j.cps.toList < i.cps.toList then j else i)) H)
theorem call_minS2 (hc : X.calm = true) : CallR X (.builtin "min") rMin2 := by
  refine CallR.or (call_min2 hc) ?_
  intro pins s σ H xs us Q I r h
  obtain ⟨i, j, rfl, q⟩ := h
  obtain ⟨u, w', rfl, ⟨t, rfl⟩, ⟨t', rfl⟩⟩ := vals2 r
  refine min_two_strs (I.ok.hd hc) fun h' tk k => ⟨_, H, I.kept k, ?_, q⟩
  by_cases hj : j.cps.toList < i.cps.toList
  · rw [if_pos hj, if_pos hj]; exact ⟨_, rfl⟩
  · rw [if_neg hj, if_neg hj]; exact ⟨_, rfl⟩
end
theorem line_lt {n : Nat} (h : n ≤ 100000) : n < sizeLine := Nat.lt_of_le_of_lt h (by decide)
theorem line_le {n : Nat} (h : n ≤ 100000) : n ≤ sizeLine := Nat.le_of_lt (line_lt h)
/-! ### steps -/
theorem tC_i {v : V} {σ : L2.St} {H : Hp} {Q : VK} (h : Q v H) : tC v σ H Q := h
theorem tCons_i {σ : L2.St} {H : Hp} {Q : List V → Hp → Prop} {ta : TE} {tr : TA} (h : ta σ H fun x H1 => tr σ H1 fun xs H2 => Q (x :: xs) H2) : tCons ta tr σ H Q := h
theorem tNil_i {σ : L2.St} {H : Hp} {Q : List V → Hp → Prop} (h : Q [] H) : tNil σ H Q := h
/-! ### items -/
theorem ixN_of {n : Nat} {k : Int} (h0 : 0 ≤ k) (h1 : k < n) : ixN n k = some k.toNat := by
  unfold ixN
  rw [if_pos h0, if_pos h1]
theorem atI_of {α : Type} {xs : List α} {k : Int} {v : α} (h0 : 0 ≤ k) (e : xs[k.toNat]? = some v) : atI xs k = some v := by
  have z : k = ((k.toNat : Nat) : Int) := by omega
  rw [z]
  exact atI_nat e
section
variable {K : PySem.W.Frag} {H : Hp} {p : Addr} {xs : List V} {k : Int} {v : V} {Q : VK}
theorem ixL (h : H p = some (.lst xs)) (h0 : 0 ≤ k) (e : xs[k.toNat]? = some v) (q : Q v H) : rIx K (.ref p) (.int k) H Q := .inl ⟨p, xs, k, v, rfl, rfl, SqL.of h, atI_of h0 e, q⟩
theorem ixT (h : H p = some (.tup xs)) (h0 : 0 ≤ k) (e : xs[k.toNat]? = some v) (q : Q v H) : rIx K (.ref p) (.int k) H Q := .inr (.inl ⟨p, xs, k, v, rfl, rfl, SqT.of h, atI_of h0 e, q⟩)
theorem ixS {z : Str} {c : Nat} (hz : z.length ≤ sizeLine) (h0 : 0 ≤ k) (e : z.cps.toList[k.toNat]? = some c) (q : Q (.str ⟨#[c]⟩) H) : rIx K (.str z) (.int k) H Q := .inr (.inr ⟨z, k, c, rfl, rfl, hz, atI_of h0 e, q⟩)
theorem setL {Q : Hp → Prop} (h : H p = some (.lst xs)) (h0 : 0 ≤ k) (h1 : k < xs.length) (q : Q (upd H p (.lst (xs.set k.toNat v)))) : rSetL (.ref p) (.int k) v H Q := ⟨p, xs, k, k.toNat, rfl, rfl, h, ixN_of h0 h1, q⟩
theorem set1 {a b c d : V} {Q : Hp → Prop} (h : H p = some (.lst [a, b, c, d])) (q : Q (upd H p (.lst [a, v, c, d]))) : rSetL (.ref p) (.int 1) v H Q := setL h (by decide) (by simp) q
theorem set2 {a b c d : V} {Q : Hp → Prop} (h : H p = some (.lst [a, b, c, d])) (q : Q (upd H p (.lst [a, b, v, d]))) : rSetL (.ref p) (.int 2) v H Q := setL h (by decide) (by simp) q
theorem set3 {a b c d : V} {Q : Hp → Prop} (h : H p = some (.lst [a, b, c, d])) (q : Q (upd H p (.lst [a, b, c, v]))) : rSetL (.ref p) (.int 3) v H Q := setL h (by decide) (by simp) q
theorem tyL (h : H p = some (.lst xs)) : tyV K "list" (.ref p) H := .inl ⟨rfl, _, SqL.of h⟩
theorem appL (h : H p = some (.lst xs)) (hz : xs.length < sizeLine) (q : Q .non (upd H p (.lst (xs ++ [v])))) : rAppend (.ref p) [v] H Q := ⟨p, xs, v, rfl, rfl, h, hz, q⟩
theorem lenL (h : H p = some (.lst xs)) : LenV K (.ref p) H xs.length := .inl ⟨xs, SqL.of h, rfl⟩
theorem lenT (h : H p = some (.tup xs)) : LenV K (.ref p) H xs.length := .inr ⟨xs, SqT.of h, rfl⟩
end
/-! ### the rules with the written part by name (a comprehension's block has it too) -/
section
variable {X : Cx} {K : PySem.W.Frag}
theorem ix_seqK (hK : X.K = K) : IxR X (rIx K) := by subst hK; exact ix_seq
theorem sl_anyK (hK : X.K = K) : SlR X (rSlA K) := by subst hK; exact sl_any
theorem op_eqDK (hK : X.K = K) (hu : X.A.units + 64 < cLine) : OpR X (compareOp .Eq) (rEqD K) := by subst hK; exact op_eqD hu
theorem op_neDK (hK : X.K = K) (hu : X.A.units + 64 < cLine) : OpR X (compareOp .NotEq) (rNeD K) := by subst hK; exact op_neD hu
theorem op_addAK (hK : X.K = K) : OpR X (binaryOp .Add) (rAddA K) := by subst hK; exact op_addA
theorem op_inAK (hK : X.K = K) : OpR X (compareOp .In) (rIn K false) := by subst hK; exact op_inA
theorem op_notInAK (hK : X.K = K) : OpR X (compareOp .NotIn) (rIn K true) := by subst hK; exact op_notInA
def rLen (K : PySem.W.Frag) : List V → Hp → VK → Prop := fun xs H Q => ∃ x n, xs = [x] ∧ LenV K x H n ∧ Q (.int (n : Nat)) H
theorem call_lenK (hK : X.K = K) : CallR X (.builtin "len") (rLen K) := by subst hK; exact call_len
theorem call_isiK' (hK : X.K = K) : CallR X (.builtin "isinstance") (rIsi K) := by subst hK; exact call_isi
theorem cr_sortedSK (hK : X.K = K) : CallR X (.builtin "sorted") (rSortedS K) := by subst hK; exact cr_sortedS
def rListOf (K : PySem.W.Frag) : List V → Hp → VK → Prop := fun xs H Q => ∃ p ys, xs = [.ref p] ∧ (SqL K H p ys ∨ SqT K H p ys) ∧ ∀ l, H l = none → Q (.ref l) (upd H l (.lst ys))
theorem call_list_ofK (hK : X.K = K) : CallR X (.type "list") (rListOf K) := by subst hK; exact call_list_of
def rTupOf (K : PySem.W.Frag) : List V → Hp → VK → Prop := fun xs H Q => ∃ p ys, xs = [.ref p] ∧ ((SqL K H p ys ∧ ∀ l, H l = none → Q (.ref l) (upd H l (.tup ys))) ∨ SqT K H p ys ∧ Q (.ref p) H)
theorem call_tuple_ofK (hK : X.K = K) : CallR X (.type "tuple") (rTupOf K) := by subst hK; exact call_tuple_of
def rListA (K : PySem.W.Frag) : List V → Hp → VK → Prop := fun xs H Q => rListOf K xs H Q ∨ ∃ (a : Addr) (kvs : List (Key × V)), xs = [.ref a] ∧ Rd H a (.dK kvs) ∧ ∀ p, H p = none → Q (.ref p) (upd H p (.lst (kvs.map fun kv => kV kv.1)))
theorem call_listAK (hK : X.K = K) (hc : X.calm = true) : CallR X (.type "list") (rListA K) := CallR.or (call_list_ofK hK) (call_listD hc)
theorem pi_listK {tg l : Expr} {tl : TE} (hK : X.K = K) (hl : PE X l tl) : PI X tg l (iList K tl) := by subst hK; exact pi_list hl
theorem pi_tupK {tg l : Expr} {tl : TE} (hK : X.K = K) (hl : PE X l tl) : PI X tg l (iTup K tl) := by subst hK; exact pi_tup hl
theorem pi_reversedK {tg e : Expr} {ta : TA} {p pos : Pos} (hK : X.K = K) (hg : Gl X "reversed") (hm : X.mg "reversed" = none) (ha : PA X [e] ta) (hs : starEach [e] X.env = [(false, eval e X.env)] := by rfl) : PI X tg (.Call (.Name "reversed" p) [e] [] pos) (iRev K ta) := by
  subst hK; exact pi_reversed hg hm ha hs
theorem pt_truthK {a : Expr} {ta : TE} (hK : X.K = K) (ha : PE X a ta) (he : ∀ whole, isTrue a X.env whole = (do let v ← whole; standAt a.pos; holding [v] (truthy v))) :
    PT X a (fun σ H Q => ta σ H fun x H' => ∃ k, TruV K x H' k ∧ Q k H') := by subst hK; exact pt_truth ha he
theorem pe_notTK {a : Expr} {ta : TE} {pos : Pos} (hK : X.K = K) (ha : PE X a ta) : PE X (.UnaryOp .Not a pos) (tNotT K ta) := by subst hK; exact pe_notT ha
theorem pg_tupK {es : List Expr} {k : Nat} {t : TGs} {n : Nat} {pos : Pos} (hK : X.K = K) (hc : X.calm = true) (h : PGs X es t)
    (hn : (assignEach es X.env).length = n := by rfl) (hst : (assignEach es X.env).findIdx? (·.1) = none := by rfl) : PG X (.Tuple es k pos) (gTup K n t) := by subst hK; exact pg_tup hc h hn hst
section
variable {o e : Expr} {es : List Expr} {to te : TE} {t : TA} {name : Str} {apos cpos : Pos} {T id : String} {r : V → List V → Hp → VK → Prop}
theorem pe_bm0K (hK : X.K = K) (pa : PlainAttrs T) (slot : Slot T name id) (hty : typeOf (.builtin id) = Pure.pure (.type "method_descriptor")) (hm : MtR X id r) (ho : PE X o to)
    (hbase : attributeBase o name X.env (eval o X.env) = eval o X.env := by rfl) (hline : (apos.endLine == cpos.line) = true := by rfl) : PE X (.Call (.Attribute o name apos) [] [] cpos) (tBM0 K T r to) := by
  subst hK; exact pe_bm0 pa slot hty hm ho hbase hline
theorem pe_bmK (hK : X.K = K) (pa : PlainAttrs T) (slot : Slot T name id) (hty : typeOf (.builtin id) = Pure.pure (.type "method_descriptor")) (hm : MtR X id r) (ho : PE X o to) (ha : PA X (e :: es) t)
    (hbase : attributeBase o name X.env (eval o X.env) = eval o X.env := by rfl)
    (hfew : ((backTo cpos (starEach (e :: es) X.env)).all (fun x => !x.1) && (backToKw cpos (keywordEach [] X.env)).all (fun x => x.1.isSome)
      && decide ((e :: es).length + ([] : List Keyword).length + (if ([] : List Keyword).isEmpty then 0 else 1) < 30)) = true := by rfl)
    (hline : (apos.endLine == cpos.line) = true := by rfl) (hs : starEach (e :: es) X.env = (false, eval e X.env) :: starEach es X.env := by rfl) (hplain : (backTo cpos (starEach es X.env)).any (·.1) = false := by rfl) :
    PE X (.Call (.Attribute o name apos) (e :: es) [] cpos) (tBM K T r to t) := by
  subst hK; exact pe_bm pa slot hty hm ho ha hbase hfew hline hs hplain
def rJoin (K : PySem.W.Frag) : V → List V → Hp → VK → Prop := fun x xs H Q => ∃ a p, ∃ ys : List Str, x = .str a ∧ xs = [.ref p] ∧ (SqL K H p (ys.map V.str) ∨ SqT K H p (ys.map V.str)) ∧
      (ys.map (·.length)).sum + ys.length * a.length ≤ 16777216 ∧ Q (.str (Txt.join a ys)) H
theorem pe_joinK (hK : X.K = K) (ho : PE X o to) (he : PE X e te) (hs : starEach [e] X.env = [(false, eval e X.env)] := by rfl) (hbase : attributeBase o "join" X.env (eval o X.env) = eval o X.env := by rfl) (hline : (apos.endLine == cpos.line) = true := by rfl) :
    PE X (.Call (.Attribute o "join" apos) [e] [] cpos) (tM1 (rJoin K) to te) := by
  subst hK; exact pe_join ho he hs hbase hline
end
end
theorem perm_erase {d : PyData} : ∀ {rem : List PyData} {k : Nat}, rem[k]? = some d → (d :: rem.eraseIdx k).Perm rem
  | [], _, h => by simp at h
  | x :: r, 0, h => by
    have e : x = d := Option.some.inj h
    subst e
    exact List.Perm.refl _
  | x :: r, k + 1, h => by
    have ih := perm_erase (rem := r) (k := k) (by simpa using h)
    show (d :: x :: r.eraseIdx k).Perm (x :: r)
    exact (List.Perm.swap x d _).trans (ih.cons x)
theorem perm_turn {d : PyData} {acc rem ds : List PyData} {k : Nat} (h : rem[k]? = some d) (p : (acc ++ rem).Perm ds) : ((acc ++ [d]) ++ rem.eraseIdx k).Perm ds := by
  refine List.Perm.trans ?_ p
  rw [List.append_assoc]
  exact (perm_erase h).append_left acc
theorem popL {H : Hp} {p : Addr} {xs : List V} {k : Int} {v : V} {Q : VK} (h : H p = some (.lst xs)) (h0 : 0 ≤ k) (h1 : k < xs.length) (e : xs[k.toNat]? = some v) (hz : xs.length ≤ 100000) (q : Q v (upd H p (.lst (xs.eraseIdx k.toNat)))) : rPopAt (.ref p) [.int k] H Q :=
  ⟨p, xs, k, k.toNat, v, rfl, rfl, h, by omega, by omega, (ixN_seq (ixN_of h0 h1)).1, e, q⟩
theorem lcYes {σ : L2.St} {H : Hp} {te : TE} {C : VK} {C' : Hp → Prop} (h : te σ H C) : tYes σ H fun b H3 => if b = true then te σ H3 C else C' H3 := by
  show (if true = true then te σ H C else C' H)
  rw [if_pos rfl]
  exact h
theorem fn_none {P : Program} {w : World} {K : PySem.W.Frag} {mg : Str → Option Value} {base : Heap} {k : Nat} {f : Addr} {fd : FuncData} {ps : List Str} {sp : Sp} (no : ∀ vs H Q E, ¬ sp vs H Q E) : FnOk P w K mg base CX0 k f fd ps sp :=
  ⟨fun vs H Q E h => absurd h (no vs H Q E), fun A outer s H args us vs Q E _ _ _ _ h => absurd h (no vs H Q E)⟩
theorem slL {K : PySem.W.Frag} {H : Hp} {a : Addr} {xs : List V} {lo hi : Option Int} {Q : VK} (h : H a = some (.lst xs)) (q : ∀ p, H p = none → Q (.ref p) (upd H p (.lst (cutV xs lo hi)))) : rSlA K (.ref a) lo hi H Q := .inl ⟨a, xs, rfl, SqL.of h, q⟩
theorem cut_from (xs : List V) (k : Nat) : cutV xs (some (k : Int)) none = xs.drop k := by
  unfold cutV
  rw [HT.sIx_nat, HT.sIx_none]
  by_cases h : k ≤ xs.length
  · rw [Nat.min_eq_left h]
    exact List.take_of_length_le (by rw [List.length_drop]; exact Nat.le_refl _)
  · rw [Nat.min_eq_right (by omega), List.drop_length, List.drop_eq_nil_of_le (by omega), List.take_nil]
theorem cut_to (xs : List V) (k : Nat) : cutV xs none (some (k : Int)) = xs.take k := by
  unfold cutV
  rw [HT.sIx_nat, HT.sIx_none]
  by_cases h : k ≤ xs.length
  · rw [Nat.min_eq_left h]; rfl
  · rw [Nat.min_eq_right (by omega)]
    show (xs.drop 0).take (xs.length - 0) = _
    rw [List.drop_zero, Nat.sub_zero, List.take_length, List.take_of_length_le (by omega)]
theorem map_drop' {α β : Type} (f : α → β) (k : Nat) (xs : List α) : (xs.map f).drop k = (xs.drop k).map f := by rw [List.map_drop]
theorem map_take' {α β : Type} (f : α → β) (k : Nat) (xs : List α) : (xs.map f).take k = (xs.take k).map f := by rw [List.map_take]
/-! ### isinstance of data -/
def tyN : PyData → String
  | .none => "NoneType"
  | .bool _ => "bool"
  | .int _ => "int"
  | .str _ => "str"
  | .list _ => "list"
  | .tuple _ => "tuple"
  | .dict _ => "dict"
theorem tyX_of {K : PySem.W.Frag} {G H : Hp} (s : Same G H) : ∀ {d : PyData} {v : V}, Dat G v d → TyX K H v (.type (tyN d))
  | _, _, .non => .base .non
  | _, _, .bl b => .base (.bl b)
  | _, _, .int i => .base (.int i)
  | _, _, .str x => .base (.str x)
  | _, _, .lst e _ => .base (.lst (s _ _ e))
  | _, _, .tup e _ => .base (.tup (s _ _ e))
theorem isi_of {K : PySem.W.Frag} {G H : Hp} {v : V} {d : PyData} {c : String} {Q : VK} (b : Bool) (h : Dat G v d) (s : Same G H) (e : kitB (tyN d) c = some b) (q : Q (.bl b) H) : rIsi K [v, .ty c] H Q :=
  ⟨v, .ty c, .type (tyN d), .type c, b, rfl, .ty c, tyX_of s h, kit_ty e, q⟩
/-! ### == of data -/
theorem eqD_of {K : PySem.W.Frag} {G H : Hp} {x y : V} {d e : PyData} {Q : VK} (hx : Dat G x d) (hy : Dat G y e) (s : Same G H) (sd : SeqAt.shaped d = true) (se : SeqAt.shaped e = true) (q : Q (.bl (PyData.eqv d e)) H) : rEqD K x y H Q :=
  ⟨d, e, hx.dpS s, hy.dpS s, sd, se, q⟩
theorem neD_of {K : PySem.W.Frag} {G H : Hp} {x y : V} {d e : PyData} {Q : VK} (hx : Dat G x d) (hy : Dat G y e) (s : Same G H) (sd : SeqAt.shaped d = true) (se : SeqAt.shaped e = true) (q : Q (.bl (!PyData.eqv d e)) H) : rNeD K x y H Q :=
  ⟨d, e, hx.dpS s, hy.dpS s, sd, se, q⟩
theorem shaped_int (i : Int) : SeqAt.shaped (.int i) = true := rfl
theorem shaped_bool (i : Bool) : SeqAt.shaped (.bool i) = true := rfl
theorem eqD_int {K : PySem.W.Frag} {H : Hp} {i j : Int} {Q : VK} (q : Q (.bl (i == j)) H) : rEqD K (.int i) (.int j) H Q := ⟨.int i, .int j, .int _, .int _, rfl, rfl, q⟩
theorem neD_int {K : PySem.W.Frag} {H : Hp} {i j : Int} {Q : VK} (q : Q (.bl (!(i == j))) H) : rNeD K (.int i) (.int j) H Q := ⟨.int i, .int j, .int _, .int _, rfl, rfl, q⟩
theorem eqD_bl {K : PySem.W.Frag} {H : Hp} {i j : Bool} {Q : VK} (q : Q (.bl (i == j)) H) : rEqD K (.bl i) (.bl j) H Q := ⟨.bool i, .bool j, .bl _, .bl _, rfl, rfl, q⟩
theorem neD_bl {K : PySem.W.Frag} {H : Hp} {i j : Bool} {Q : VK} (q : Q (.bl (!(i == j))) H) : rNeD K (.bl i) (.bl j) H Q := ⟨.bool i, .bool j, .bl _, .bl _, rfl, rfl, q⟩
theorem shaped_str {s : Str} (h : PyData.strOk s = true) : SeqAt.shaped (.str s) = true := by
  show (PyData.strOk s && _) = true
  rw [h]
  rfl
theorem eqD_str {K : PySem.W.Frag} {H : Hp} {i j : Str} {Q : VK} (hi : PyData.strOk i = true) (hj : PyData.strOk j = true) (q : Q (.bl (i == j)) H) : rEqD K (.str i) (.str j) H Q := ⟨.str i, .str j, .str _, .str _, shaped_str hi, shaped_str hj, q⟩
theorem neD_str {K : PySem.W.Frag} {H : Hp} {i j : Str} {Q : VK} (hi : PyData.strOk i = true) (hj : PyData.strOk j = true) (q : Q (.bl (!(i == j))) H) : rNeD K (.str i) (.str j) H Q := ⟨.str i, .str j, .str _, .str _, shaped_str hi, shaped_str hj, q⟩
/-! ### in, of texts -/
theorem flat_strs : ∀ xs : List Str, (xs.map V.str).all flatV = true
  | [] => rfl
  | _ :: r => flat_strs r
theorem inV_strs (x : Str) : ∀ xs : List Str, inV (.str x) (xs.map V.str) = decide (x ∈ xs)
  | [] => by simp [inV]
  | y :: r => by
    have ih := inV_strs x r
    unfold inV at ih ⊢
    rw [List.map_cons, List.any_cons, ih]
    show ((y == x) || decide (x ∈ r)) = _
    by_cases e : y = x
    · subst e; simp
    · have e' : (y == x) = false := beq_eq_false_iff_ne.mpr e
      have e2 : x ≠ y := fun z => e z.symm
      rw [e']
      simp [e2]
theorem flat_ints : ∀ xs : List Int, (xs.map V.int).all flatV = true
  | [] => rfl
  | _ :: r => flat_ints r
theorem inV_ints (x : Int) : ∀ xs : List Int, inV (.int x) (xs.map V.int) = decide (x ∈ xs)
  | [] => by simp [inV]
  | y :: r => by
    have ih := inV_ints x r
    unfold inV at ih ⊢
    rw [List.map_cons, List.any_cons, ih]
    show ((y == x) || decide (x ∈ r)) = _
    by_cases e : y = x
    · subst e; simp
    · have e' : (y == x) = false := beq_eq_false_iff_ne.mpr e
      have e2 : x ≠ y := fun z => e z.symm
      rw [e']
      simp [e2]
/-! ### what a loop walks, by a count -/
structure WalkJ (J : It) (n : Nat) (x : Nat → V) (OK : Hp → Prop) : Prop where
  go : ∀ i H, OK H → i < n → J.go i H
  stop : ∀ i H, OK H → n ≤ i → J.stop i H
  yld : ∀ i H v H', OK H → i < n → J.yld i H v H' → H' = H ∧ v = x i
def nth (xs : List V) (i : Nat) : V := xs.getD i .non
theorem nth_at {xs : List V} {i : Nat} (h : i < xs.length) : xs[i]? = some (nth xs i) := by
  unfold nth
  rw [List.getD_eq_getElem?_getD, List.getElem?_eq_getElem h]
  rfl
theorem walk_range {lo : Int} {n : Nat} : WalkJ (Itr lo n) n (fun i => .int (lo + (i : Nat))) (fun _ => True) :=
  ⟨fun _ _ _ h => h, fun _ _ _ h => h, fun _ _ _ _ _ _ h => h⟩
theorem walk_list {K : PySem.W.Frag} {a : Addr} {xs : List V} : WalkJ (Itl K a) xs.length (nth xs) (fun H => H a = some (.lst xs)) :=
  ⟨fun i H ok h => ⟨xs, nth xs i, SqL.of ok, nth_at h⟩, fun i H ok h => ⟨xs, SqL.of ok, h⟩, fun i H v H' ok h y => ⟨y.1, Option.some.inj ((y.2 xs (SqL.of ok)).symm.trans (nth_at h))⟩⟩
theorem walk_tup {K : PySem.W.Frag} {a : Addr} {xs : List V} : WalkJ (Itt K a) xs.length (nth xs) (fun H => H a = some (.tup xs)) :=
  ⟨fun i H ok h => ⟨xs, nth xs i, SqT.of ok, nth_at h⟩, fun i H ok h => ⟨xs, SqT.of ok, h⟩, fun i H v H' ok h y => ⟨y.1, Option.some.inj ((y.2 xs (SqT.of ok)).symm.trans (nth_at h))⟩⟩
theorem walk_rev {K : PySem.W.Frag} {a : Addr} {xs : List V} : WalkJ (Itv K a xs.length) xs.length (fun i => nth xs (xs.length - 1 - i)) (fun H => H a = some (.lst xs)) :=
  ⟨fun i H ok h => ⟨h, xs, nth xs (xs.length - 1 - i), SqL.of ok, nth_at (by omega)⟩, fun i H ok h => h, fun i H v H' ok h y => ⟨y.1, Option.some.inj ((y.2 xs (SqL.of ok)).symm.trans (nth_at (by omega)))⟩⟩
/- a comprehension whose items are data; P: what else is known, by the turn, the items, the heaps (an object made since must not matter) -/
theorem comp_go {J : It} {n : Nat} {x : Nat → V} {OK : Hp → Prop} {M : List Addr} {G H : Hp} {σ : L2.St} {vs : List Nat} {g : TG} {tt : TT} {te : TE} {Q : VK} (P : Nat → List PyData → Hp → Hp → Prop)
    (W : WalkJ J n x OK) (s : Same G H) (hn : n < sizeLine) (hM : ∀ m ∈ M, H m ≠ none) (ok : ∀ G' H', Ex M G H G' H' → OK H')
    (P0 : P 0 [] G H) (Pw : ∀ i acc G' H' D o, P i acc G' H' → H D = none → G' D = none → P i acc G' (upd H' D o)) (Pg : ∀ i acc G' H' D o, P i acc G' H' → H D = none → G' D = none → P i acc (upd G' D o) H')
    (stp : ∀ i acc G1 H1, i < n → Ex M G H G1 H1 → P i acc G1 H1 → ∀ (C : VK) (C' : Hp → Prop), (∀ y G2 H2 d, Ex M G1 H1 G2 H2 → Dat G2 y d → P (i + 1) (acc ++ [d]) G2 H2 → C y H2) → (∀ G2 H2, Ex M G1 H1 G2 H2 → P (i + 1) acc G2 H2 → C' H2) →
      g (x i) (wipe σ vs) H1 fun σ2 H2 => wipe σ2 vs = wipe σ vs ∧ tt σ2 H2 fun b H3 => if b = true then te σ2 H3 C else C' H3)
    (fin : ∀ G' H' r acc, Ex M G H G' H' → Dat G' r (.list acc) → acc.length ≤ n → P n acc G' H' → Q r H') :
    ∀ D, H D = none → ∃ W : Nat → Nat → Hp → Prop, (∃ m, W 0 m (upd H D (.lst []))) ∧ ∀ i m H, W i m H →
      (J.stop i H ∧ Q (.ref D) H) ∨ (J.go i H ∧ ∃ Nx : Hp → Prop, (∀ H', Nx H' → ∃ m', m' < m ∧ W (i + 1) m' H') ∧ ∀ x H', J.yld i H x H' → g x (wipe σ vs) H' fun σ2 H2 => wipe σ2 vs = wipe σ vs ∧ tt σ2 H2 fun b H3 =>
        if b = true then te σ2 H3 fun y H4 => ∃ acc, H4 D = some (.lst acc) ∧ acc.length < sizeLine ∧ Nx (upd H4 D (.lst (acc ++ [y]))) else Nx H3) := by
  intro D hD
  have gD : G D = none := s.free hD
  have nM : D ∉ M := fun z => hM D z hD
  refine ⟨fun i m H' => m = n - i ∧ i ≤ n ∧ ∃ G' acc xs, Ex M G H G' H' ∧ G' D = none ∧ H' D = some (.lst xs) ∧ DatA G' xs acc ∧ acc.length ≤ i ∧ P i acc G' H', ⟨n, by omega, Nat.zero_le _, G, [], [], (Ex.refl s).new hD, gD, upd_same, .nil, Nat.le_refl _, Pw _ _ _ _ _ _ P0 hD gD⟩, ?_⟩
  rintro i m H1 ⟨rfl, hi, G1, acc, xs, E1, g1, h1, da, ha, p⟩
  have o1 := ok _ _ E1
  by_cases hlt : i < n
  · refine .inr ⟨W.go i H1 o1 hlt, fun H' => i + 1 ≤ n ∧ ∃ G' acc xs, Ex M G H G' H' ∧ G' D = none ∧ H' D = some (.lst xs) ∧ DatA G' xs acc ∧ acc.length ≤ i + 1 ∧ P (i + 1) acc G' H', fun H' q => ⟨n - (i + 1), by omega, rfl, q⟩, fun v H' y => ?_⟩
    obtain ⟨e1, e2⟩ := W.yld i H1 v H' o1 hlt y
    subst e1 e2
    refine stp i acc G1 _ hlt E1 p _ _ (fun y G2 H2 d E2 dy p2 => ?_) fun G2 H2 E2 p2 => ?_
    · have g2 : G2 D = none := E2.out g1 h1
      have h2 : H2 D = some (.lst xs) := E2.at_ h1 nM
      refine ⟨xs, h2, Nat.lt_of_le_of_lt (by rw [da.len]; omega) hn, hlt, G2, acc ++ [d], xs ++ [y], (E1.trans E2).wr g2 (.inr hD), g2, upd_same, (da.up E2.gg).app (.cons dy .nil), by rw [List.length_append, List.length_singleton]; omega, Pw _ _ _ _ _ _ p2 hD g2⟩
    · exact ⟨hlt, G2, acc, xs, E1.trans E2, E2.out g1 h1, E2.at_ h1 nM, da.up E2.gg, by omega, p2⟩
  · have e : i = n := by omega
    subst e
    refine .inl ⟨W.stop _ _ o1 (Nat.le_refl _), ?_⟩
    exact fin (upd G1 D (.lst xs)) H1 _ acc (E1.fix g1 h1 hD) (Dat.newL da g1) ha (Pg _ _ _ _ _ _ p hD g1)
end EA
namespace EA
open PySem PySem.Spec PyProof.Rows L2
/-! ### texts in order -/
def slt (a b : Str) : Prop := a.cps.toList < b.cps.toList
instance (a b : Str) : Decidable (slt a b) := inferInstanceAs (Decidable (a.cps.toList < b.cps.toList))
theorem str_ext {a b : Str} (h : a.cps.toList = b.cps.toList) : a = b := by
  cases a; cases b
  simp only [Str.mk.injEq]
  exact Array.ext' h
theorem slt_irrefl (a : Str) : ¬ slt a a := List.lt_irrefl _
theorem slt_trans {a b c : Str} (h : slt a b) (k : slt b c) : slt a c := List.lt_trans h k
theorem slt_tri {a b : Str} (h : ¬ slt a b) (k : ¬ slt b a) : a = b := str_ext (List.le_antisymm (List.not_lt.mp k) (List.not_lt.mp h))
theorem slt_asymm {a b : Str} (h : slt a b) : ¬ slt b a := fun k => slt_irrefl _ (slt_trans h k)
theorem slt_ne {a b : Str} (h : slt a b) : a ≠ b := fun e => slt_irrefl b (by rw [e] at h; exact h)
/-! ### conditions -/
inductive C where
  | b (v : Bool)
  | nd (s : Str) (on off : C)
  deriving DecidableEq
def C.enc : C → PyData
  | .b v => .bool v
  | .nd s x y => .tuple [.str s, x.enc, y.enc]
def C.ev (f : Str → Bool) : C → Bool
  | .b v => v
  | .nd s x y => if f s then x.ev f else y.ev f
def C.no : C → C
  | .b v => .b (!v)
  | .nd s x y => .nd s x.no y.no
def C.formed (s : Str) (x y : C) : C := if x = y then x else .nd s x y
def C.side : C → Str → Bool → C
  | .b v, _, _ => .b v
  | .nd t x y, s, o => if t = s then (if o then x else y) else .nd t x y
def C.vars : C → List Str
  | .b _ => []
  | .nd s x y => s :: (x.vars ++ y.vars)
/- of the one form, over these switches in this order -/
inductive OC : List Str → C → Prop where
  | leaf {ns : List Str} (v : Bool) : OC ns (.b v)
  | node {x : Str} {xs : List Str} {a b : C} : OC xs a → OC xs b → a ≠ b → OC (x :: xs) (.nd x a b)
  | skip {x : Str} {xs : List Str} {c : C} : OC xs c → OC (x :: xs) c
theorem C.no_no : ∀ c : C, c.no.no = c
  | .b v => by simp [C.no]
  | .nd s x y => by simp [C.no, C.no_no x, C.no_no y]
theorem C.ev_no (f : Str → Bool) : ∀ c : C, c.no.ev f = !c.ev f
  | .b v => rfl
  | .nd s x y => by
    show (if f s then x.no.ev f else y.no.ev f) = !(if f s then x.ev f else y.ev f)
    rw [C.ev_no f x, C.ev_no f y]
    split <;> rfl
theorem OC.no {ns : List Str} {c : C} (h : OC ns c) : OC ns c.no := by
  induction h with
  | leaf v => exact .leaf _
  | node _ _ ne ha hb => exact .node ha hb fun e => ne (by have z := congrArg C.no e; rwa [C.no_no, C.no_no] at z)
  | skip _ h => exact .skip h
theorem C.ev_formed (f : Str → Bool) (s : Str) (x y : C) : (C.formed s x y).ev f = if f s then x.ev f else y.ev f := by
  unfold C.formed
  split
  · rename_i e
    subst e
    split <;> rfl
  · rfl
theorem OC.formed {x : Str} {xs : List Str} {a b : C} (ha : OC xs a) (hb : OC xs b) : OC (x :: xs) (C.formed x a b) := by
  unfold C.formed
  split
  · exact .skip ha
  · rename_i e
    exact .node ha hb e
theorem C.ev_side (f : Str → Bool) (s : Str) (c : C) : c.ev f = if f s then (c.side s true).ev f else (c.side s false).ev f := by
  cases c with
  | b v => simp [C.side]
  | nd t x y =>
    unfold C.side
    by_cases e : t = s
    · subst e
      simp [C.ev]
    · simp [e]
theorem OC.app {ns : List Str} {c : C} (h : OC ns c) : ∀ pre : List Str, OC (pre ++ ns) c
  | [] => h
  | x :: r => .skip (OC.app h r)
theorem OC.bool_of {c : C} (h : OC [] c) : ∃ v, c = .b v := by
  cases h with
  | leaf v => exact ⟨v, rfl⟩
/- where the first switch stands -/
theorem OC.split {ns : List Str} {s : Str} {x y : C} (h : OC ns (.nd s x y)) : ∃ pre ys, ns = pre ++ s :: ys ∧ OC ys x ∧ OC ys y ∧ x ≠ y := by
  generalize e : C.nd s x y = c at h
  induction h with
  | leaf v => cases e
  | node ha hb ne _ _ => cases e; exact ⟨[], _, rfl, ha, hb, ne⟩
  | @skip z xs c h ih =>
    obtain ⟨pre, ys, e1, r⟩ := ih e
    exact ⟨z :: pre, ys, by rw [e1]; rfl, r⟩
theorem OC.drop1 {x : Str} {xs : List Str} {s : Str} {a b : C} (h : OC (x :: xs) (.nd s a b)) (n : s ≠ x) : OC xs (.nd s a b) := by
  cases h with
  | node _ _ _ => exact absurd rfl n
  | skip h => exact h
theorem OC.dropn {s : Str} {a b : C} : ∀ {pre ys : List Str}, OC (pre ++ ys) (.nd s a b) → s ∉ pre → OC ys (.nd s a b)
  | [], _, h, _ => h
  | x :: r, ys, h, n => OC.dropn (pre := r) (h.drop1 fun e => n (by rw [e]; exact List.mem_cons_self)) fun m => n (List.mem_cons_of_mem _ m)
theorem OC.vars {ns : List Str} {c : C} (h : OC ns c) : ∀ s ∈ c.vars, s ∈ ns := by
  induction h with
  | leaf v => intro s hs; cases hs
  | @node x xs a b _ _ _ ha hb =>
    intro s hs
    rcases List.mem_cons.mp hs with e | hs
    · rw [e]; exact List.mem_cons_self
    · rcases List.mem_append.mp hs with hs | hs
      · exact List.mem_cons_of_mem _ (ha s hs)
      · exact List.mem_cons_of_mem _ (hb s hs)
  | skip _ ih => exact fun s hs => List.mem_cons_of_mem _ (ih s hs)
theorem C.ev_congr {f g : Str → Bool} : ∀ (c : C), (∀ s ∈ c.vars, f s = g s) → c.ev f = c.ev g
  | .b _, _ => rfl
  | .nd s x y, h => by
    show (if f s then x.ev f else y.ev f) = (if g s then x.ev g else y.ev g)
    rw [h s List.mem_cons_self, C.ev_congr x fun t ht => h t (List.mem_cons_of_mem _ (List.mem_append_left _ ht)), C.ev_congr y fun t ht => h t (List.mem_cons_of_mem _ (List.mem_append_right _ ht))]
def fset (f : Str → Bool) (s : Str) (o : Bool) : Str → Bool := fun t => if t = s then o else f t
theorem C.ev_fset {f : Str → Bool} {s : Str} {o : Bool} {c : C} (h : s ∉ c.vars) : c.ev (fset f s o) = c.ev f :=
  C.ev_congr c fun t ht => by
    unfold fset
    rw [if_neg fun e => h (by rw [← e]; exact ht)]
theorem OC.ev_fset {ns : List Str} {f : Str → Bool} {s : Str} {o : Bool} {c : C} (h : OC ns c) (n : s ∉ ns) : c.ev (fset f s o) = c.ev f := C.ev_fset fun m => n (h.vars s m)
/- one set of settings, one form -/
theorem OC.uniq : ∀ {ns : List Str}, ns.Nodup → ∀ {c d : C}, OC ns c → OC ns d → (∀ f, c.ev f = d.ev f) → c = d
  | [], _, c, d, hc, hd, h => by
    obtain ⟨v, rfl⟩ := hc.bool_of
    obtain ⟨w, rfl⟩ := hd.bool_of
    exact congrArg C.b (h fun _ => true)
  | x :: xs, nd, c, d, hc, hd, h => by
    obtain ⟨nx, nd'⟩ := List.nodup_cons.mp nd
    have cof : ∀ {c : C}, OC (x :: xs) c → ∃ p q, OC xs p ∧ OC xs q ∧ (∀ f, c.ev f = if f x then p.ev f else q.ev f) ∧ c = C.formed x p q := fun {c} hc => by
      cases hc with
      | leaf v => exact ⟨.b v, .b v, .leaf v, .leaf v, fun f => by simp [C.ev], by simp [C.formed]⟩
      | @node _ _ a b ha hb ne => exact ⟨a, b, ha, hb, fun f => rfl, by simp [C.formed, ne]⟩
      | skip h => exact ⟨c, c, h, h, fun f => by simp, by simp [C.formed]⟩
    obtain ⟨p, q, hp, hq, e1, r1⟩ := cof hc
    obtain ⟨p', q', hp', hq', e2, r2⟩ := cof hd
    have ep : p = p' := OC.uniq nd' hp hp' fun f => by
      have z := h (fset f x true)
      rw [e1, e2] at z
      simp only [fset, if_true] at z
      have z1 := hp.ev_fset (f := f) (o := true) nx
      have z2 := hp'.ev_fset (f := f) (o := true) nx
      rw [← z1, ← z2]
      exact z
    have eq : q = q' := OC.uniq nd' hq hq' fun f => by
      have z := h (fset f x false)
      rw [e1, e2] at z
      simp only [fset, if_true, Bool.false_eq_true, if_false] at z
      have z1 := hq.ev_fset (f := f) (o := false) nx
      have z2 := hq'.ev_fset (f := f) (o := false) nx
      rw [← z1, ← z2]
      exact z
    rw [r1, r2, ep, eq]
/- sorted names -/
structure NS (ns : List Str) : Prop where
  srt : ns.Pairwise slt
  ok : ∀ n ∈ ns, PyData.strOk n = true ∧ n.length ≤ 100
  few : ns.length ≤ 12
theorem pw_nodup {ns : List Str} (h : ns.Pairwise slt) : ns.Nodup := h.imp fun h => slt_ne h
theorem NS.nd {ns : List Str} (h : NS ns) : ns.Nodup := pw_nodup h.srt
theorem NS.suf {pre ns : List Str} (h : NS (pre ++ ns)) : NS ns :=
  ⟨(List.pairwise_append.mp h.srt).2.1, fun n m => h.ok n (List.mem_append_right _ m), by have := h.few; rw [List.length_append] at this; omega⟩
/- the sides at the least first switch -/
theorem OC.sides {pre ys : List Str} {y : Str} (hn : NS (pre ++ y :: ys)) {c : C} (hc : OC (pre ++ y :: ys) c) (hm : ∀ s x z, c = .nd s x z → ¬ slt s y) : ∀ o, OC ys (c.side y o) := by
  intro o
  cases c with
  | b v => exact .leaf v
  | nd s x z =>
    have h1 := hm s x z rfl
    have srt := List.pairwise_append.mp hn.srt
    have npre : s ∉ pre := fun m => h1 (srt.2.2 s m y List.mem_cons_self)
    have h2 := hc.dropn npre
    show OC ys (if s = y then (if o then x else z) else .nd s x z)
    by_cases e : s = y
    · subst e
      rw [if_pos rfl]
      have nys : s ∉ ys := fun m => slt_irrefl s ((List.pairwise_cons.mp srt.2.1).1 s m)
      cases h2 with
      | node ha hb _ =>
        cases o with
        | true => exact ha
        | false => exact hb
      | skip h =>
        obtain ⟨p, q, e, _⟩ := h.split
        exact absurd (by rw [e]; simp) nys
    · rw [if_neg e]
      exact h2.drop1 e
theorem OC.mins {ns : List Str} (hn : NS ns) {t t2 : Str} {x y x2 y2 : C} (hc : OC ns (.nd t x y)) (hd : OC ns (.nd t2 x2 y2)) (m : Str) (hm : m = if t2.cps.toList < t.cps.toList then t2 else t) :
    ∃ pre ys, ns = pre ++ m :: ys ∧ (∀ o, OC ys (C.side (.nd t x y) m o)) ∧ ∀ o, OC ys (C.side (.nd t2 x2 y2) m o) := by
  by_cases h : t2.cps.toList < t.cps.toList
  · rw [if_pos h] at hm
    subst hm
    obtain ⟨pre, ys, rfl, _⟩ := hd.split
    exact ⟨pre, ys, rfl, hc.sides hn (fun s a b e => by cases e; exact slt_asymm h), hd.sides hn (fun s a b e => by cases e; exact slt_irrefl _)⟩
  · rw [if_neg h] at hm
    subst hm
    obtain ⟨pre, ys, rfl, _⟩ := hc.split
    exact ⟨pre, ys, rfl, hc.sides hn (fun s a b e => by cases e; exact slt_irrefl _), hd.sides hn (fun s a b e => by cases e; exact h)⟩
/-! ### what the data must be for == -/
theorem C.depth_le {ns : List Str} {c : C} (h : OC ns c) : c.enc.depth ≤ ns.length := by
  induction h with
  | leaf v => exact Nat.zero_le _
  | @node x xs a b _ _ _ ha hb =>
    show max (PyData.depth (.str x)) (max a.enc.depth (max b.enc.depth 0)) + 1 ≤ _
    have : PyData.depth (.str x) = 0 := rfl
    rw [List.length_cons]
    omega
  | skip _ ih => rw [List.length_cons]; omega
theorem C.canLay {ns : List Str} {c : C} (h : OC ns c) (k : ∀ n ∈ ns, PyData.strOk n = true) : c.enc.canLay0 = true := by
  induction h with
  | leaf v => rfl
  | @node x xs a b _ _ _ ha hb =>
    show (PyData.canLay0 (.str x) && (a.enc.canLay0 && (b.enc.canLay0 && true))) = true
    rw [ha fun n m => k n (List.mem_cons_of_mem _ m), hb fun n m => k n (List.mem_cons_of_mem _ m)]
    have : PyData.canLay0 (.str x) = PyData.strOk x := rfl
    rw [this, k x List.mem_cons_self]
    rfl
  | skip _ ih => exact ih fun n m => k n (List.mem_cons_of_mem _ m)
theorem OC.shaped {ns : List Str} {c : C} (h : OC ns c) (n : NS ns) : SeqAt.shaped c.enc = true := by
  show (c.enc.canLay0 && decide (c.enc.depth ≤ 64)) = true
  have d := C.depth_le h
  have f := n.few
  rw [C.canLay h fun x m => (n.ok x m).1, decide_eq_true (by omega)]
  rfl
theorem C.eqv_iff : ∀ c d : C, PyData.eqv c.enc d.enc = decide (c = d)
  | .b v, .b w => by
    show (v == w) = _
    cases v <;> cases w <;> rfl
  | .b v, .nd _ _ _ => rfl
  | .nd _ _ _, .b v => rfl
  | .nd s x y, .nd t z w => by
    show ((s == t) && (PyData.eqv x.enc z.enc && (PyData.eqv y.enc w.enc && true))) = _
    rw [C.eqv_iff x z, C.eqv_iff y w]
    by_cases e1 : s = t
    · by_cases e2 : x = z
      · by_cases e3 : y = w
        · simp [e1, e2, e3]
        · simp [e1, e2, e3]
      · simp [e1, e2]
    · simp [e1]
theorem Dat.enc_b {G : Hp} {v : V} {c : C} (h : Dat G v c.enc) (e : v = .bl true ∨ v = .bl false ∨ ∃ a, v = .ref a) : True := trivial
theorem Dat.c_inv {G : Hp} {v : V} {c : C} (h : Dat G v c.enc) : (∃ b, c = .b b ∧ v = .bl b) ∨ (∃ s x y a vx vy, c = .nd s x y ∧ v = .ref a ∧ G a = some (.tup [.str s, vx, vy]) ∧ Dat G vx x.enc ∧ Dat G vy y.enc) := by
  cases c with
  | b b => exact .inl ⟨b, rfl, h.bool_inv⟩
  | nd s x y =>
    obtain ⟨a, xs, rfl, e, da⟩ := Dat.tup_inv (show Dat G v (.tuple [.str s, x.enc, y.enc]) from h)
    cases da with
    | cons h1 t1 =>
      cases t1 with
      | cons h2 t2 =>
        cases t2 with
        | cons h3 t3 =>
          cases t3
          have e1 := h1.str_inv
          subst e1
          exact .inr ⟨s, x, y, a, _, _, rfl, rfl, e, h2, h3⟩
/-! ### keys of a dict, sorted texts -/
theorem keys_put {s : Str} {v : V} : ∀ {kvs : List (Key × V)} {ks : List Str}, kvs.map (·.1) = ks.map Sum.inr → (putK kvs (.inr s) v).map (·.1) = (if s ∈ ks then ks else ks ++ [s]).map Sum.inr := by
  intro kvs ks h
  have hany : (kvs.any fun kv => decide (kv.1 = Sum.inr s)) = decide (s ∈ ks) := by
    have e1 : (kvs.any fun kv => decide (kv.1 = Sum.inr s)) = ((kvs.map (·.1)).any fun k => decide (k = Sum.inr s)) := by
      rw [List.any_map]; rfl
    rw [e1, h, List.any_map]
    rw [Bool.eq_iff_iff, List.any_eq_true, decide_eq_true_iff]
    constructor
    · rintro ⟨t, ht, e⟩
      have e2 : (Sum.inr t : Key) = Sum.inr s := of_decide_eq_true e
      have e3 : t = s := Sum.inr.inj e2
      rw [← e3]; exact ht
    · intro m
      exact ⟨s, m, decide_eq_true rfl⟩
  unfold putK
  rw [hany]
  by_cases m : s ∈ ks
  · rw [if_pos (decide_eq_true m), if_pos m, List.map_map, ← h]
    refine List.map_congr_left fun kv _ => ?_
    show (if kv.1 = Sum.inr s then (kv.1, v) else kv).1 = kv.1
    split <;> rfl
  · rw [if_neg (by rw [decide_eq_false m]; exact Bool.false_ne_true), if_neg m, List.map_append, h, List.map_append]
    rfl
theorem nodup_len [DecidableEq Str] : ∀ {l m : List Str}, l.Nodup → (∀ x ∈ l, x ∈ m) → l.length ≤ m.length
  | [], _, _, _ => Nat.zero_le _
  | x :: r, m, nd, h => by
    obtain ⟨nx, nd'⟩ := List.nodup_cons.mp nd
    have hx := h x List.mem_cons_self
    have ih := nodup_len (l := r) (m := m.erase x) nd' fun y hy => by
      have hne : y ≠ x := fun e => nx (by rw [← e]; exact hy)
      exact (List.mem_erase_of_ne hne).mpr (h y (List.mem_cons_of_mem _ hy))
    rw [List.length_erase_of_mem hx] at ih
    have : 0 < m.length := List.length_pos_of_mem hx
    rw [List.length_cons]
    omega
theorem rising_pw : ∀ {p : Str} {ss : List Str}, risingS p ss = true → (∀ x ∈ ss, ¬ slt x p) ∧ ss.Pairwise fun a b => ¬ slt b a
  | p, [], _ => ⟨fun x h => (nomatch h), .nil⟩
  | p, x :: r, h => by
    have h' : (!ltCps x.cps.toList p.cps.toList && risingS x r) = true := h
    rw [ltCps_eq, Bool.and_eq_true] at h'
    obtain ⟨h1, h2⟩ := h'
    have h1' : ¬ slt x p := by
      intro z
      rw [decide_eq_true (show x.cps.toList < p.cps.toList from z)] at h1
      cases h1
    obtain ⟨i1, i2⟩ := rising_pw h2
    refine ⟨fun y hy => ?_, .cons (fun y hy => i1 y hy) i2⟩
    rcases List.mem_cons.mp hy with e | hy
    · rw [e]; exact h1'
    · intro z
      -- y < p, and neither y < x nor x < p
      have a := i1 y hy
      by_cases hxy : slt x y
      · exact h1' (slt_trans hxy z)
      · have e : x = y := slt_tri hxy a
        rw [← e] at z
        exact h1' z
theorem sorted_pw {ss : List Str} (h : sortedS ss = true) : ss.Pairwise fun a b => ¬ slt b a := by
  cases ss with
  | nil => exact .nil
  | cons x r =>
    obtain ⟨i1, i2⟩ := rising_pw (p := x) (ss := r) h
    exact .cons (fun y hy => i1 y hy) i2
theorem sorted_strict {ss ks : List Str} (h : sortedS ss = true) (p : ss.Perm ks) (nd : ks.Nodup) : ss.Pairwise slt := by
  have nd' : ss.Nodup := (p.nodup_iff).mpr nd
  have h1 := sorted_pw h
  refine List.Pairwise.imp₂ ?_ h1 nd'
  intro a b x y
  by_cases z : slt a b
  · exact z
  · exact absurd (slt_tri z x) y
/- strictly sorted lists with the same members are one -/
theorem sorted_uniq : ∀ {xs ys : List Str}, xs.Pairwise slt → ys.Pairwise slt → (∀ s, s ∈ xs ↔ s ∈ ys) → xs = ys
  | [], [], _, _, _ => rfl
  | [], y :: r, _, _, h => absurd ((h y).mpr List.mem_cons_self) (fun z => nomatch z)
  | x :: r, [], _, _, h => absurd ((h x).mp List.mem_cons_self) (fun z => nomatch z)
  | x :: r, y :: q, hx, hy, h => by
    obtain ⟨x1, x2⟩ := List.pairwise_cons.mp hx
    obtain ⟨y1, y2⟩ := List.pairwise_cons.mp hy
    have e : x = y := by
      rcases List.mem_cons.mp ((h x).mp List.mem_cons_self) with e | m
      · exact e
      · rcases List.mem_cons.mp ((h y).mpr List.mem_cons_self) with e | m2
        · exact e.symm
        · exact absurd (slt_trans (y1 x m) (x1 y m2)) (slt_irrefl _)
    subst e
    rw [sorted_uniq x2 y2 fun s => ⟨fun m => ?_, fun m => ?_⟩]
    · rcases List.mem_cons.mp ((h s).mp (List.mem_cons_of_mem _ m)) with e | m2
      · rw [e] at m; exact absurd (x1 x m) (slt_irrefl _)
      · exact m2
    · rcases List.mem_cons.mp ((h s).mpr (List.mem_cons_of_mem _ m)) with e | m2
      · rw [e] at m; exact absurd (y1 x m) (slt_irrefl _)
      · exact m2
def C.size : C → Nat
  | .b _ => 1
  | .nd _ x y => x.size + y.size + 1
theorem C.size_pos : ∀ c : C, 0 < c.size
  | .b _ => Nat.zero_lt_one
  | .nd _ _ _ => Nat.succ_pos _
theorem OC.size_lt {ns : List Str} {c : C} (h : OC ns c) : c.size < 2 ^ (ns.length + 1) := by
  induction h with
  | @leaf ns v =>
    have : 0 < 2 ^ ns.length := Nat.two_pow_pos _
    show 1 < _
    rw [Nat.pow_succ]
    omega
  | @node x xs a b _ _ _ ha hb =>
    show a.size + b.size + 1 < _
    rw [List.length_cons, Nat.pow_succ]
    omega
  | @skip x xs c _ ih =>
    rw [List.length_cons, Nat.pow_succ]
    omega
theorem OC.size_few {ns : List Str} {c : C} (h : OC ns c) (n : NS ns) : c.size ≤ 10000 := by
  have a := h.size_lt
  have b : 2 ^ (ns.length + 1) ≤ 2 ^ 13 := Nat.pow_le_pow_right (by decide) (by have := n.few; omega)
  have d : (2 : Nat) ^ 13 = 8192 := by decide
  omega
end EA
namespace EA
open PySem PySem.Spec PyProof.Rows L2
/-! ### the settings by their numbers -/
def asg : List Str → Nat → Str → Bool
  | [], _, _ => false
  | x :: xs, k, s => if s = x then decide (k / 2 ^ xs.length % 2 = 1) else asg xs k s
theorem div_mod_add {a m k q : Nat} (h : q < a) : (2 ^ a * m + k) / 2 ^ q % 2 = k / 2 ^ q % 2 := by
  have e : 2 ^ a = 2 ^ q * (2 * 2 ^ (a - q - 1)) := by
    rw [← Nat.pow_succ', ← Nat.pow_add]
    congr 1
    omega
  rw [e, Nat.mul_assoc, Nat.add_comm, Nat.add_mul_div_left _ _ (Nat.two_pow_pos q), Nat.mul_assoc, Nat.add_mul_mod_self_left]
theorem asg_add (m : Nat) : ∀ (xs : List Str) (a k : Nat) (s : Str), xs.length ≤ a → asg xs (2 ^ a * m + k) s = asg xs k s
  | [], _, _, _, _ => rfl
  | x :: xs, a, k, s, h => by
    rw [List.length_cons] at h
    show (if s = x then _ else _) = if s = x then _ else _
    rw [div_mod_add (by omega), asg_add m xs a k s (by omega)]
theorem asg_at {s : Str} : ∀ {ns : List Str} {j k : Nat}, ns.Nodup → ns[j]? = some s → asg ns k s = decide (k / 2 ^ (ns.length - 1 - j) % 2 = 1)
  | [], _, _, _, h => by simp at h
  | x :: xs, 0, k, nd, h => by
    have e : x = s := Option.some.inj h
    subst e
    show (if x = x then _ else _) = _
    rw [if_pos rfl, List.length_cons, Nat.add_sub_cancel, Nat.sub_zero]
  | x :: xs, j + 1, k, nd, h => by
    obtain ⟨nx, nd'⟩ := List.nodup_cons.mp nd
    have h' : xs[j]? = some s := by simpa using h
    have ne : s ≠ x := fun e => nx (by rw [← e]; exact List.mem_of_getElem? h')
    show (if s = x then _ else _) = _
    rw [if_neg ne, asg_at nd' h', List.length_cons]
    have z : xs.length + 1 - 1 - (j + 1) = xs.length - 1 - j := by omega
    rw [z]
/- the number of a setting -/
def idx : List Str → (Str → Bool) → Nat
  | [], _ => 0
  | x :: xs, f => (if f x then 2 ^ xs.length else 0) + idx xs f
theorem idx_lt : ∀ (ns : List Str) (f : Str → Bool), idx ns f < 2 ^ ns.length
  | [], _ => Nat.zero_lt_one
  | x :: xs, f => by
    have ih := idx_lt xs f
    show (if f x then 2 ^ xs.length else 0) + idx xs f < _
    rw [List.length_cons, Nat.pow_succ]
    split <;> omega
theorem asg_idx : ∀ {ns : List Str} {f : Str → Bool}, ns.Nodup → ∀ s ∈ ns, asg ns (idx ns f) s = f s
  | [], _, _, s, h => nomatch h
  | x :: xs, f, nd, s, h => by
    obtain ⟨nx, nd'⟩ := List.nodup_cons.mp nd
    have ih := idx_lt xs f
    have p := Nat.two_pow_pos xs.length
    show (if s = x then decide (((if f x then 2 ^ xs.length else 0) + idx xs f) / 2 ^ xs.length % 2 = 1) else asg xs ((if f x then 2 ^ xs.length else 0) + idx xs f) s) = f s
    by_cases e : s = x
    · rw [if_pos e, e]
      cases hf : f x with
      | true =>
        simp only [if_true]
        rw [Nat.add_div_left _ p, Nat.div_eq_of_lt ih]
        rfl
      | false =>
        simp only [Bool.false_eq_true, if_false, Nat.zero_add]
        rw [Nat.div_eq_of_lt ih]
        rfl
    · rw [if_neg e]
      have hs : s ∈ xs := (List.mem_cons.mp h).resolve_left e
      have ihs := asg_idx (f := f) nd' s hs
      split
      · have z := asg_add 1 xs xs.length (idx xs f) s (Nat.le_refl _)
        rw [Nat.mul_one] at z
        rw [z]
        exact ihs
      · rw [Nat.zero_add]
        exact ihs
/- the truth row of a condition -/
structure Rep (ns : List Str) (c : C) (row : List Bool) : Prop where
  oc : OC ns c
  len : row.length = 2 ^ ns.length
  at_ : ∀ k, k < 2 ^ ns.length → row[k]? = some (c.ev (asg ns k))
theorem ev_idx {ns : List Str} {c : C} (h : OC ns c) (nd : ns.Nodup) (f : Str → Bool) : c.ev f = c.ev (asg ns (idx ns f)) :=
  C.ev_congr c fun s hs => (asg_idx nd s (h.vars s hs)).symm
theorem Rep.all {ns : List Str} {c : C} {row : List Bool} (h : Rep ns c row) (nd : ns.Nodup) {d : C} (hd : OC ns d) (e : ∀ k, k < 2 ^ ns.length → c.ev (asg ns k) = d.ev (asg ns k)) : c = d :=
  OC.uniq nd h.oc hd fun f => by rw [ev_idx h.oc nd, ev_idx hd nd]; exact e _ (idx_lt ns f)
theorem Rep.uniq {ns : List Str} {c d : C} {row : List Bool} (nd : ns.Nodup) (h : Rep ns c row) (k : Rep ns d row) : c = d :=
  h.all nd k.oc fun i hi => Option.some.inj ((h.at_ i hi).symm.trans (k.at_ i hi))
theorem rep_of {ns : List Str} {c : C} (h : OC ns c) (g : Nat → Bool) (e : ∀ k, k < 2 ^ ns.length → c.ev (asg ns k) = g k) : Rep ns c ((List.range (2 ^ ns.length)).map g) :=
  ⟨h, by rw [List.length_map, List.length_range], fun k hk => by rw [List.getElem?_map, List.getElem?_range hk, e k hk]; rfl⟩
/- a switch and the rows of both sides -/
theorem Rep.form {x : Str} {xs : List Str} {a b : C} {r1 r2 : List Bool} (ha : Rep xs a r1) (hb : Rep xs b r2) (nx : x ∉ xs) : Rep (x :: xs) (C.formed x b a) (r1 ++ r2) := by
  have p := Nat.two_pow_pos xs.length
  refine ⟨OC.formed hb.oc ha.oc, by rw [List.length_append, ha.len, hb.len, List.length_cons, Nat.pow_succ]; omega, fun k hk => ?_⟩
  rw [List.length_cons, Nat.pow_succ] at hk
  rw [C.ev_formed]
  have ax : ∀ k s, asg (x :: xs) k s = if s = x then decide (k / 2 ^ xs.length % 2 = 1) else asg xs k s := fun k s => rfl
  have cut : ∀ (c : C), OC xs c → ∀ k, c.ev (asg (x :: xs) k) = c.ev (asg xs k) := fun c hc k => C.ev_congr c fun s hs => by
    rw [ax, if_neg fun e => nx (by rw [← e]; exact hc.vars s hs)]
  rw [cut _ ha.oc, cut _ hb.oc, ax, if_pos rfl]
  by_cases h : k < 2 ^ xs.length
  · rw [List.getElem?_append_left (by rw [ha.len]; exact h), ha.at_ k h, Nat.div_eq_of_lt h]
    rfl
  · have hk2 : k - 2 ^ xs.length < 2 ^ xs.length := by omega
    rw [List.getElem?_append_right (by rw [ha.len]; omega), ha.len, hb.at_ _ hk2]
    have e1 : k = 2 ^ xs.length * 1 + (k - 2 ^ xs.length) := by omega
    have e2 : k / 2 ^ xs.length = 1 := by
      rw [e1, Nat.add_comm, Nat.add_mul_div_left _ _ p, Nat.div_eq_of_lt hk2]
    rw [e2]
    simp only [Nat.mod_eq_of_lt (show 1 < 2 by decide), decide_true, if_true]
    congr 1
    refine C.ev_congr b fun s hs => ?_
    conv => rhs; rw [e1]
    rw [asg_add 1 xs xs.length _ s (Nat.le_refl _)]
/-! ### a setting with one switch turned -/
def tn (wt k : Nat) (on : Bool) : Nat := (if k / wt % 2 = 1 then k - wt else k) + (if on then wt else 0)
theorem tn_parts (p k : Nat) (on : Bool) : tn (2 ^ p) k on = 2 ^ (p + 1) * (k / 2 ^ (p + 1)) + ((if on then 2 ^ p else 0) + k % 2 ^ p) := by
  have h1 := Nat.div_add_mod k (2 ^ p)
  have h2 := Nat.div_add_mod (k / 2 ^ p) 2
  have e : k / 2 ^ p / 2 = k / 2 ^ (p + 1) := by rw [Nat.div_div_eq_div_mul, Nat.pow_succ]
  have z : 2 ^ p * (k / 2 ^ p) = 2 ^ (p + 1) * (k / 2 ^ (p + 1)) + 2 ^ p * (k / 2 ^ p % 2) := by
    rw [← e, Nat.pow_succ, Nat.mul_assoc, ← Nat.mul_add, h2]
  unfold tn
  have m := Nat.mod_two_eq_zero_or_one (k / 2 ^ p)
  rcases m with m | m
  · rw [m] at z
    rw [if_neg (by omega)]
    split <;> omega
  · rw [m] at z
    rw [if_pos m]
    split <;> omega
theorem tn_same (p k : Nat) (on : Bool) : tn (2 ^ p) k on / 2 ^ p % 2 = if on then 1 else 0 := by
  rw [tn_parts]
  have q := Nat.two_pow_pos p
  have l := Nat.mod_lt k q
  rw [div_mod_add (Nat.lt_succ_self p)]
  cases on with
  | true =>
    simp only [if_true]
    rw [Nat.add_div_left _ q, Nat.div_eq_of_lt l]
  | false =>
    simp only [Bool.false_eq_true, if_false, Nat.zero_add]
    rw [Nat.div_eq_of_lt l]
theorem tn_other (p k q : Nat) (on : Bool) (h : q ≠ p) : tn (2 ^ p) k on / 2 ^ q % 2 = k / 2 ^ q % 2 := by
  rw [tn_parts]
  have pp := Nat.two_pow_pos p
  have l := Nat.mod_lt k pp
  by_cases hq : q < p
  · rw [div_mod_add (by omega)]
    have e1 : (if on = true then 2 ^ p else 0) = 2 ^ p * (if on = true then 1 else 0) := by split <;> simp
    rw [e1, div_mod_add hq]
    conv => rhs; rw [← Nat.div_add_mod k (2 ^ p)]
    rw [div_mod_add hq]
  · have e : 2 ^ q = 2 ^ (p + 1) * 2 ^ (q - (p + 1)) := by
      rw [← Nat.pow_add]
      congr 1
      omega
    have lt : (if on = true then 2 ^ p else 0) + k % 2 ^ p < 2 ^ (p + 1) := by
      rw [Nat.pow_succ]
      split <;> omega
    rw [e, ← Nat.div_div_eq_div_mul, ← Nat.div_div_eq_div_mul]
    congr 2
    rw [Nat.add_comm, Nat.add_mul_div_left _ _ (Nat.two_pow_pos _), Nat.div_eq_of_lt lt, Nat.zero_add]
theorem tn_lt {p k n : Nat} (on : Bool) (hp : p < n) (hk : k < 2 ^ n) : tn (2 ^ p) k on < 2 ^ n := by
  rw [tn_parts]
  have pp := Nat.two_pow_pos p
  have l := Nat.mod_lt k pp
  have e : 2 ^ n = 2 ^ (p + 1) * 2 ^ (n - (p + 1)) := by
    rw [← Nat.pow_add]
    congr 1
    omega
  have h1 : k / 2 ^ (p + 1) < 2 ^ (n - (p + 1)) := by
    rw [Nat.div_lt_iff_lt_mul (Nat.two_pow_pos _), Nat.mul_comm, ← e]
    exact hk
  have h2 : 2 ^ (p + 1) * (k / 2 ^ (p + 1)) + 2 ^ (p + 1) ≤ 2 ^ (p + 1) * 2 ^ (n - (p + 1)) := by
    rw [← Nat.mul_succ]
    exact Nat.mul_le_mul_left _ h1
  rw [e]
  have lt : (if on = true then 2 ^ p else 0) + k % 2 ^ p < 2 ^ (p + 1) := by
    rw [Nat.pow_succ]
    split <;> omega
  omega
theorem asg_tn {ns : List Str} (nd : ns.Nodup) {j : Nat} {z : Str} (hj : ns[j]? = some z) (k : Nat) (on : Bool) : ∀ s ∈ ns, asg ns (tn (2 ^ (ns.length - 1 - j)) k on) s = fset (asg ns k) z on s := by
  intro s hs
  obtain ⟨i, hi⟩ := List.getElem?_of_mem hs
  have li : i < ns.length := (List.getElem?_eq_some_iff.mp hi).1
  have lj : j < ns.length := (List.getElem?_eq_some_iff.mp hj).1
  rw [asg_at nd hi]
  unfold fset
  by_cases e : s = z
  · subst e
    have ij : i = j := nodup_ix nd hi hj
    subst ij
    rw [if_pos rfl, tn_same]
    cases on <;> rfl
  · have ij : i ≠ j := fun h => e (by rw [h, hj] at hi; exact (Option.some.inj hi).symm)
    rw [if_neg e, asg_at nd hi, tn_other _ _ _ _ (by omega)]
theorem ev_tn {ns : List Str} (nd : ns.Nodup) {j : Nat} {z : Str} (hj : ns[j]? = some z) {c : C} (h : OC ns c) (k : Nat) (on : Bool) : c.ev (asg ns (tn (2 ^ (ns.length - 1 - j)) k on)) = c.ev (fset (asg ns k) z on) :=
  C.ev_congr c fun s hs => asg_tn nd hj k on s (h.vars s hs)
/- the switches of a condition are those that matter -/
theorem fset_comm {f : Str → Bool} {s t : Str} {a b : Bool} (h : s ≠ t) : fset (fset f s a) t b = fset (fset f t b) s a := by
  funext u
  unfold fset
  by_cases e1 : u = t
  · by_cases e2 : u = s
    · exact absurd (e2.symm.trans e1) h
    · simp [e1]
      intro z
      exact absurd z.symm h
  · simp [e1]
theorem OC.ess {s : Str} : ∀ {ns : List Str} {c : C}, ns.Nodup → OC ns c → s ∈ c.vars → ∃ f, c.ev (fset f s true) ≠ c.ev (fset f s false)
  | [], c, _, h, hs => by
    obtain ⟨v, rfl⟩ := h.bool_of
    cases hs
  | x :: xs, c, nd, h, hs => by
    obtain ⟨nx, nd'⟩ := List.nodup_cons.mp nd
    cases h with
    | leaf v => cases hs
    | skip h => exact OC.ess nd' h hs
    | @node _ _ a b ha hb ne =>
      rcases List.mem_cons.mp hs with e | hs
      · subst e
        -- the sides are unlike
        have hne : ∃ f, a.ev f ≠ b.ev f := Classical.byContradiction fun z => ne (OC.uniq nd' ha hb fun f => Classical.byContradiction fun k => z ⟨f, k⟩)
        obtain ⟨f, hf⟩ := hne
        refine ⟨f, ?_⟩
        show (if fset f s true s then a.ev (fset f s true) else b.ev (fset f s true)) ≠ (if fset f s false s then a.ev (fset f s false) else b.ev (fset f s false))
        have q1 := ha.ev_fset (f := f) (o := true) nx
        have q2 := hb.ev_fset (f := f) (o := false) nx
        simp only [fset, if_true, Bool.false_eq_true, if_false]
        intro z
        exact hf (by rw [← q1, ← q2]; exact z)
      · have hsx : ∀ {d : C}, OC xs d → s ∈ d.vars → s ≠ x := fun hd m e => nx (by rw [← e]; exact hd.vars s m)
        rcases List.mem_append.mp hs with hs | hs
        · obtain ⟨f, hf⟩ := OC.ess nd' ha hs
          have sx := hsx ha hs
          refine ⟨fset f x true, fun z => hf ?_⟩
          rw [fset_comm sx.symm, fset_comm sx.symm] at z
          have z' : (if fset (fset f s true) x true x then a.ev (fset (fset f s true) x true) else b.ev (fset (fset f s true) x true)) = (if fset (fset f s false) x true x then a.ev (fset (fset f s false) x true) else b.ev (fset (fset f s false) x true)) := z
          have q1 := ha.ev_fset (f := fset f s true) (o := true) nx
          have q2 := ha.ev_fset (f := fset f s false) (o := true) nx
          rw [q1, q2] at z'
          simpa [fset] using z'
        · obtain ⟨f, hf⟩ := OC.ess nd' hb hs
          have sx := hsx hb hs
          refine ⟨fset f x false, fun z => hf ?_⟩
          rw [fset_comm sx.symm, fset_comm sx.symm] at z
          have z' : (if fset (fset f s true) x false x then a.ev (fset (fset f s true) x false) else b.ev (fset (fset f s true) x false)) = (if fset (fset f s false) x false x then a.ev (fset (fset f s false) x false) else b.ev (fset (fset f s false) x false)) := z
          have q1 := hb.ev_fset (f := fset f s true) (o := false) nx
          have q2 := hb.ev_fset (f := fset f s false) (o := false) nx
          rw [q1, q2] at z'
          simpa [fset] using z'
theorem OC.ess_iff {s : Str} {ns : List Str} {c : C} (nd : ns.Nodup) (h : OC ns c) : s ∈ c.vars ↔ ∃ f, c.ev (fset f s true) ≠ c.ev (fset f s false) := by
  refine ⟨OC.ess nd h, fun ⟨f, hf⟩ => ?_⟩
  refine Classical.byContradiction fun m => hf ?_
  rw [C.ev_fset m, C.ev_fset m]
end EA
namespace EA
open PySem PySem.Spec PyProof.Rows L2
theorem tNoPart_i {σ : L2.St} {H : Hp} {Q : Option Int → Hp → Prop} (h : Q none H) : tNoPart σ H Q := h
/- the same where what follows is not yet named -/
theorem comp_goD {J : It} {n : Nat} {x : Nat → V} {OK : Hp → Prop} {M : List Addr} {G H : Hp} {σ : L2.St} {vs : List Nat} {g : TG} {tt : TT} {te : TE} {Qd : Addr → Hp → Prop} (P : Nat → List PyData → Hp → Hp → Prop)
    (W : WalkJ J n x OK) (s : Same G H) (hn : n < sizeLine) (hM : ∀ m ∈ M, H m ≠ none) (ok : ∀ G' H', Ex M G H G' H' → OK H')
    (P0 : P 0 [] G H) (Pw : ∀ i acc G' H' D o, P i acc G' H' → H D = none → G' D = none → P i acc G' (upd H' D o)) (Pg : ∀ i acc G' H' D o, P i acc G' H' → H D = none → G' D = none → P i acc (upd G' D o) H')
    (stp : ∀ i acc G1 H1, i < n → Ex M G H G1 H1 → P i acc G1 H1 → ∀ (C : VK) (C' : Hp → Prop), (∀ y G2 H2 d, Ex M G1 H1 G2 H2 → Dat G2 y d → P (i + 1) (acc ++ [d]) G2 H2 → C y H2) → (∀ G2 H2, Ex M G1 H1 G2 H2 → P (i + 1) acc G2 H2 → C' H2) →
      g (x i) (wipe σ vs) H1 fun σ2 H2 => wipe σ2 vs = wipe σ vs ∧ tt σ2 H2 fun b H3 => if b = true then te σ2 H3 C else C' H3)
    (fin : ∀ G' H' D acc, Ex M G H G' H' → Dat G' (.ref D) (.list acc) → acc.length ≤ n → P n acc G' H' → Qd D H') :
    ∀ D, H D = none → ∃ W : Nat → Nat → Hp → Prop, (∃ m, W 0 m (upd H D (.lst []))) ∧ ∀ i m H, W i m H →
      (J.stop i H ∧ Qd D H) ∨ (J.go i H ∧ ∃ Nx : Hp → Prop, (∀ H', Nx H' → ∃ m', m' < m ∧ W (i + 1) m' H') ∧ ∀ x H', J.yld i H x H' → g x (wipe σ vs) H' fun σ2 H2 => wipe σ2 vs = wipe σ vs ∧ tt σ2 H2 fun b H3 =>
        if b = true then te σ2 H3 fun y H4 => ∃ acc, H4 D = some (.lst acc) ∧ acc.length < sizeLine ∧ Nx (upd H4 D (.lst (acc ++ [y]))) else Nx H3) := by
  intro D hD
  obtain ⟨W, h0, hW⟩ := comp_go (Q := fun v H => ∀ D, v = .ref D → Qd D H) P W s hn hM ok P0 Pw Pg stp (fun G' H' r acc E d l p D e => by subst e; exact fin G' H' D acc E d l p) D hD
  exact ⟨W, h0, fun i m H w => (hW i m H w).imp (fun ⟨a, b⟩ => ⟨a, b D rfl⟩) id⟩
section
variable {K : PySem.W.Frag} {H : Hp} {c : String} {Q : VK}
theorem isi_non (r : Bool) (e : kitB "NoneType" c = some r) (q : Q (.bl r) H) : rIsi K [.non, .ty c] H Q := isi_of r (G := H) .non (Same.refl H) e q
theorem isi_bl {b : Bool} (r : Bool) (e : kitB "bool" c = some r) (q : Q (.bl r) H) : rIsi K [.bl b, .ty c] H Q := isi_of r (G := H) (.bl b) (Same.refl H) e q
theorem isi_int {i : Int} (r : Bool) (e : kitB "int" c = some r) (q : Q (.bl r) H) : rIsi K [.int i, .ty c] H Q := isi_of r (G := H) (.int i) (Same.refl H) e q
theorem isi_str {s : Str} (r : Bool) (e : kitB "str" c = some r) (q : Q (.bl r) H) : rIsi K [.str s, .ty c] H Q := isi_of r (G := H) (.str s) (Same.refl H) e q
theorem isi_tup {a : Addr} {xs : List V} (h : H a = some (.tup xs)) (r : Bool) (e : kitB "tuple" c = some r) (q : Q (.bl r) H) : rIsi K [.ref a, .ty c] H Q :=
  ⟨.ref a, .ty c, .type "tuple", .type c, r, rfl, .ty c, .base (.tup h), kit_ty e, q⟩
theorem isi_lst {a : Addr} {xs : List V} (h : H a = some (.lst xs)) (r : Bool) (e : kitB "list" c = some r) (q : Q (.bl r) H) : rIsi K [.ref a, .ty c] H Q :=
  ⟨.ref a, .ty c, .type "list", .type c, r, rfl, .ty c, .base (.lst h), kit_ty e, q⟩
end
end EA
namespace EA
open PySem PySem.Spec PyProof.Rows L2
theorem for_go {J : It} {n : Nat} {x : Nat → V} {OK : Hp → Prop} (Wk : WalkJ J n x OK) {g : TG} {tb : TS} {D : Ends} {σ : L2.St} {H : Hp} (Pv : Nat → L2.St → Hp → Prop) (h0 : Pv 0 σ H) (hl : ∀ i σ H, i ≤ n → Pv i σ H → OK H)
    (hs : ∀ i σ H, i < n → Pv i σ H → g (x i) σ H fun σ2 H2 => tb { D with nx := Pv (i + 1), ct := Pv (i + 1), bk := D.nx } σ2 H2) (hd : ∀ σ H, Pv n σ H → D.nx σ H) :
    ∃ W : Nat → Nat → L2.St → Hp → Prop, (∃ m, W 0 m σ H) ∧ ∀ i m σ H, W i m σ H →
      (J.stop i H ∧ D.nx σ H) ∨ (J.go i H ∧ ∃ N : L2.St → Hp → Prop, (∀ σ' H', N σ' H' → ∃ m', m' < m ∧ W (i + 1) m' σ' H') ∧ ∀ x H', J.yld i H x H' → g x σ H' fun σ2 H2 => tb { D with nx := N, ct := N, bk := D.nx } σ2 H2) := by
  refine ⟨fun i m σ H => m = n - i ∧ i ≤ n ∧ Pv i σ H, ⟨n, by simp, Nat.zero_le _, h0⟩, ?_⟩
  rintro i m σ H ⟨rfl, hi, p⟩
  have q := hl i σ H hi p
  by_cases hlt : i < n
  · refine .inr ⟨Wk.go i H q hlt, Pv (i + 1), fun σ' H' p' => ⟨n - (i + 1), by omega, rfl, hlt, p'⟩, fun v H' y => ?_⟩
    obtain ⟨e1, e2⟩ := Wk.yld i H v H' q hlt y
    subst e1 e2
    exact hs i σ _ hlt p
  · have e : i = n := by omega
    subst e
    exact .inl ⟨Wk.stop _ _ q (Nat.le_refl _), hd σ H p⟩
/-! ### all settings -/
def SL : List Str → List (List Str)
  | [] => [[]]
  | x :: xs => SL xs ++ (SL xs).map (x :: ·)
theorem SL_len : ∀ ns : List Str, (SL ns).length = 2 ^ ns.length
  | [] => rfl
  | x :: xs => by
    show (SL xs ++ (SL xs).map (x :: ·)).length = _
    rw [List.length_append, List.length_map, SL_len xs, List.length_cons, Nat.pow_succ]
    omega
theorem SL_mem : ∀ {ns : List Str} {k : Nat} {l : List Str}, ns.Nodup → (SL ns)[k]? = some l → ∀ s, s ∈ l ↔ s ∈ ns ∧ asg ns k s = true
  | [], k, l, _, h, s => by
    match k, h with
    | 0, h =>
      have e : [] = l := Option.some.inj h
      subst e
      simp
  | x :: xs, k, l, nd, h, s => by
    obtain ⟨nx, nd'⟩ := List.nodup_cons.mp nd
    have p := Nat.two_pow_pos xs.length
    have ax : asg (x :: xs) k s = if s = x then decide (k / 2 ^ xs.length % 2 = 1) else asg xs k s := rfl
    have h' : (SL xs ++ (SL xs).map (x :: ·))[k]? = some l := h
    by_cases hk : k < 2 ^ xs.length
    · rw [List.getElem?_append_left (by rw [SL_len]; exact hk)] at h'
      rw [SL_mem nd' h' s, ax, Nat.div_eq_of_lt hk]
      by_cases e : s = x
      · subst e
        simp [nx]
      · simp [e]
    · rw [List.getElem?_append_right (by rw [SL_len]; omega), SL_len, List.getElem?_map] at h'
      obtain ⟨l', h1, rfl⟩ := Option.map_eq_some_iff.mp h'
      have lt : k - 2 ^ xs.length < 2 ^ xs.length := by
        have := (List.getElem?_eq_some_iff.mp h1).1
        rw [SL_len] at this
        exact this
      have e1 : k = 2 ^ xs.length * 1 + (k - 2 ^ xs.length) := by omega
      have e2 : k / 2 ^ xs.length = 1 := by rw [e1, Nat.add_comm, Nat.add_mul_div_left _ _ p, Nat.div_eq_of_lt lt]
      have e3 : asg xs k s = asg xs (k - 2 ^ xs.length) s := by
        conv => lhs; rw [e1]
        rw [asg_add 1 xs xs.length _ s (Nat.le_refl _)]
      rw [List.mem_cons, SL_mem nd' h1 s, ax, e2, e3]
      by_cases e : s = x
      · subst e
        simp
      · simp [e]
theorem SL_few : ∀ {ns : List Str} {l : List Str}, l ∈ SL ns → l.length ≤ ns.length ∧ ∀ s ∈ l, s ∈ ns
  | [], l, h => by
    have e : l = [] := by simpa [SL] using h
    subst e
    exact ⟨Nat.le_refl _, fun s hs => nomatch hs⟩
  | x :: xs, l, h => by
    have h' : l ∈ SL xs ++ (SL xs).map (x :: ·) := h
    rcases List.mem_append.mp h' with h' | h'
    · obtain ⟨a, b⟩ := SL_few h'
      exact ⟨Nat.le_succ_of_le a, fun s hs => List.mem_cons_of_mem _ (b s hs)⟩
    · obtain ⟨l', h1, rfl⟩ := List.mem_map.mp h'
      obtain ⟨a, b⟩ := SL_few h1
      refine ⟨Nat.succ_le_succ a, fun s hs => ?_⟩
      rcases List.mem_cons.mp hs with e | hs
      · rw [e]; exact List.mem_cons_self
      · exact List.mem_cons_of_mem _ (b s hs)
abbrev strsD (l : List Str) : PyData := .list (l.map PyData.str)
theorem ev_SL {ns : List Str} {k : Nat} {l : List Str} {c : C} (nd : ns.Nodup) (h : (SL ns)[k]? = some l) (hc : OC ns c) {es : List Str} (he : ∀ s, s ∈ es ↔ s ∈ l ∨ s = "Q9") (nq : (Str.ofString "Q9") ∉ ns) : (c.ev fun s => decide (s ∈ es)) = c.ev (asg ns k) :=
  C.ev_congr c fun s hs => by
    have m := hc.vars s hs
    have ne : s ≠ "Q9" := fun e => nq (by rw [← show s = Str.ofString "Q9" from e]; exact m)
    rw [Bool.eq_iff_iff, decide_eq_true_iff, he, SL_mem nd h]
    simp [m, ne]
theorem ev_SL' {ns : List Str} {k : Nat} {l : List Str} {c : C} (nd : ns.Nodup) (h : (SL ns)[k]? = some l) (hc : OC ns c) : (c.ev fun s => decide (s ∈ l)) = c.ev (asg ns k) :=
  C.ev_congr c fun s hs => by
    have m := hc.vars s hs
    rw [Bool.eq_iff_iff, decide_eq_true_iff, SL_mem nd h]
    simp [m]
theorem mat_iff {ns : List Str} {c : C} {z : Str} (nd : ns.Nodup) (h : OC ns c) : (∀ k, k < 2 ^ ns.length → c.ev (fset (asg ns k) z true) = c.ev (fset (asg ns k) z false)) ↔ z ∉ c.vars := by
  constructor
  · intro e m
    obtain ⟨f, hf⟩ := OC.ess nd h m
    refine hf ?_
    have q : ∀ o, c.ev (fset f z o) = c.ev (fset (asg ns (idx ns f)) z o) := fun o => C.ev_congr c fun s hs => by
      unfold fset
      split
      · rfl
      · exact (asg_idx nd s (h.vars s hs)).symm
    rw [q, q]
    exact e _ (idx_lt ns f)
  · intro m k _
    rw [C.ev_fset m, C.ev_fset m]
theorem filter_take {ns : List Str} {p : Str → Bool} {i : Nat} {z : Str} (h : ns[i]? = some z) : (ns.take (i + 1)).filter p = (ns.take i).filter p ++ (if p z then [z] else []) := by
  rw [List.take_add_one, h, List.filter_append]
  congr 1
  show List.filter p [z] = _
  cases hp : p z <;> simp [hp]
end EA
namespace EA
open PySem PySem.Spec PyProof.Rows L2
theorem perm_map_inv {α β : Type} {f : α → β} : ∀ {l k : List β}, l.Perm k → ∀ {m : List α}, k = m.map f → ∃ m' : List α, l = m'.map f ∧ m'.Perm m := by
  intro l k h
  induction h with
  | nil =>
    intro m e
    have z : m = [] := List.map_eq_nil_iff.mp e.symm
    subst z
    exact ⟨[], rfl, List.Perm.refl _⟩
  | cons x _ ih =>
    intro m e
    cases m with
    | nil => cases e
    | cons y r =>
      rw [List.map_cons, List.cons.injEq] at e
      obtain ⟨m', e1, p⟩ := ih e.2
      exact ⟨y :: m', by rw [List.map_cons, ← e1, e.1], p.cons y⟩
  | swap x y l =>
    intro m e
    match m, e with
    | a :: b :: r, e =>
      rw [List.map_cons, List.map_cons, List.cons.injEq, List.cons.injEq] at e
      exact ⟨b :: a :: r, by rw [List.map_cons, List.map_cons, e.1, e.2.1, e.2.2], List.Perm.swap a b r⟩
  | trans _ _ ih1 ih2 =>
    intro m e
    obtain ⟨m1, e1, p1⟩ := ih2 e
    obtain ⟨m2, e2, p2⟩ := ih1 e1
    exact ⟨m2, e2, p2.trans p1⟩
/-! ### drawn names -/
abbrev cl (s : Str) : List Nat := s.cps.toList
def Tag (k : Nat) (s : Str) : Prop := cl s = [109, 49 + k] ∨ cl s = [101, 49 + k] ∨ ∃ (c : Nat) (mid : List Nat), cl s = c :: (mid ++ [48 + k]) ∧ 65 ≤ c ∧ c ≤ 90 ∧ (∀ x ∈ mid, 97 ≤ x ∧ x ≤ 122) ∧ mid.length ≤ 7
theorem Tag.inj {i j : Nat} {s : Str} (h : Tag i s) (k : Tag j s) : i = j := by
  have last : ∀ {c : Nat} {mid mid' : List Nat} {c' x y : Nat}, c :: (mid ++ [x]) = c' :: (mid' ++ [y]) → x = y := fun {c mid mid' c' x y} e => by
    have e2 : mid ++ [x] = mid' ++ [y] := (List.cons.inj e).2
    have := congrArg List.getLast? e2
    simpa using this
  rcases h with h | h | ⟨c, mid, h, c1, c2, _, _⟩ <;> rcases k with k | k | ⟨c', mid', k, d1, d2, _, _⟩ <;> rw [h] at k
  · simp at k; omega
  · simp at k
  · have := (List.cons.inj k).1; omega
  · simp at k
  · simp at k; omega
  · have := (List.cons.inj k).1; omega
  · have := (List.cons.inj k).1; omega
  · have := (List.cons.inj k).1; omega
  · have := last k; omega
theorem Tag.ok {k : Nat} {s : Str} (h : Tag k s) (hk : k ≤ 8) : PyData.strOk s = true ∧ s.length ≤ 100 := by
  have len : s.length = (cl s).length := by
    show s.cps.size = s.cps.toList.length
    rw [Array.length_toList]
  have al : PyData.strOk s = (cl s).all fun x => decide (x < 0x110000) := by
    show s.cps.all (· < 0x110000) = _
    rw [Array.all_toList]
  rw [al, len, List.all_eq_true]
  rcases h with h | h | ⟨c, mid, h, c1, c2, m1, m2⟩ <;> rw [h]
  · refine ⟨fun x hx => ?_, by simp⟩
    have : x = 109 ∨ x = 49 + k := by simpa using hx
    exact decide_eq_true (by omega)
  · refine ⟨fun x hx => ?_, by simp⟩
    have : x = 101 ∨ x = 49 + k := by simpa using hx
    exact decide_eq_true (by omega)
  · refine ⟨fun x hx => ?_, by simp; omega⟩
    rcases List.mem_cons.mp hx with e | hx
    · exact decide_eq_true (by omega)
    · rcases List.mem_append.mp hx with hx | hx
      · have := m1 x hx
        exact decide_eq_true (by omega)
      · have : x = 48 + k := by simpa using hx
        exact decide_eq_true (by omega)
theorem cl_Q9 : cl (Str.ofString "Q9") = [81, 57] := by decide +kernel
theorem Tag.q9 {k : Nat} (hk : k ≤ 7) : ¬ Tag k (Str.ofString "Q9") := by
  intro h
  rcases h with h | h | ⟨c, mid, h, c1, c2, _, _⟩ <;> rw [cl_Q9] at h
  · simp at h
  · simp at h
  · have e : [57] = mid ++ [48 + k] := (List.cons.inj h).2
    have := congrArg List.getLast? e
    have z : 57 = 48 + k := by simpa using this
    omega
theorem cl_append (a b : Str) : cl (a ++ b) = cl a ++ cl b := by
  show (a.cps ++ b.cps).toList = _
  rw [Array.toList_append]
theorem digit : ∀ k : Nat, k < 10 → cl (Str.ofString (toString (k : Int))) = [48 + k] := by
  intro k h
  match k, h with
  | 0, _ => decide +kernel
  | 1, _ => decide +kernel
  | 2, _ => decide +kernel
  | 3, _ => decide +kernel
  | 4, _ => decide +kernel
  | 5, _ => decide +kernel
  | 6, _ => decide +kernel
  | 7, _ => decide +kernel
  | 8, _ => decide +kernel
  | 9, _ => decide +kernel
theorem low_at : ∀ r : Nat, r < 26 → (cl (Str.ofString "abcdefghijklmnopqrstuvwxyz"))[r]? = some (97 + r) := by decide +kernel
theorem up_at : ∀ r : Nat, r < 26 → (cl (Str.ofString "ABCDEFGHIJKLMNOPQRSTUVWXYZ"))[r]? = some (65 + r) := by decide +kernel
theorem joinL_nil : ∀ ps : List (List Nat), TL.joinL [] ps = ps.flatten
  | [] => rfl
  | [p] => by simp [TL.joinL]
  | p :: q :: r => by
    show p ++ ([] ++ TL.joinL [] (q :: r)) = _
    rw [joinL_nil (q :: r)]
    rfl
theorem cl_join {e : Str} (h : cl e = []) (ps : List Str) : cl (Txt.join e ps) = (ps.map cl).flatten := by
  rw [TL.join_eq]
  have z := TL.tl_join e ps
  rw [show TL.tl e = [] from h, joinL_nil] at z
  exact z
theorem flat_one : ∀ (ps : List Str) (ms : List Nat), ps.map cl = ms.map (fun x => [x]) → (ps.map cl).flatten = ms := by
  intro ps ms h
  rw [h]
  induction ms generalizing ps with
  | nil => rfl
  | cons x r ih =>
    cases ps with
    | nil => cases h
    | cons p q =>
      rw [List.map_cons, List.map_cons, List.cons.injEq] at h
      rw [List.map_cons, List.flatten_cons, ih q h.2]
      rfl
theorem sum_one : ∀ ms : List Nat, ((ms.map fun x => (⟨#[x]⟩ : Str)).map (·.length)).sum = ms.length
  | [] => rfl
  | x :: r => by
    rw [List.map_cons, List.map_cons, List.sum_cons, sum_one r, List.length_cons]
    have : (⟨#[x]⟩ : Str).length = 1 := rfl
    omega
theorem tag_nodup : ∀ {ss : List Str} (o : Nat), (∀ j s, ss[j]? = some s → Tag (j + o) s) → ss.Nodup
  | [], _, _ => .nil
  | x :: r, o, h => by
    refine List.nodup_cons.mpr ⟨fun m => ?_, tag_nodup (o + 1) fun j s e => ?_⟩
    · obtain ⟨j, hj⟩ := List.getElem?_of_mem m
      have a := h 0 x rfl
      have b := h (j + 1) x (by simpa using hj)
      have := a.inj b
      omega
    · have b := h (j + 1) s (by simpa using e)
      rw [show j + (o + 1) = j + 1 + o by omega]
      exact b
end EA
namespace EA
open PySem PySem.Spec PyProof.Rows L2
abbrev rowD (row : List Bool) : PyData := .list (row.map PyData.bool)
/- a row of truths by a range -/
theorem comp_bools {n : Nat} (f : Nat → Bool) {G H : Hp} {σ : L2.St} {vs : List Nat} {g : TG} {tt : TT} {te : TE} {Qd : Addr → Hp → Prop} (s : Same G H) (hn : n ≤ 100000)
    (stp : ∀ k G1 H1, k < n → Ex [] G H G1 H1 → ∀ (C : VK) (C' : Hp → Prop), (∀ G2 H2, Ex [] G1 H1 G2 H2 → C (.bl (f k)) H2) →
      g (.int (0 + (k : Nat))) (wipe σ vs) H1 fun σ2 H2 => wipe σ2 vs = wipe σ vs ∧ tt σ2 H2 fun b H3 => if b = true then te σ2 H3 C else C' H3)
    (fin : ∀ G' H' D, Ex [] G H G' H' → Dat G' (.ref D) (rowD ((List.range n).map f)) → Qd D H') :
    ∀ D, H D = none → ∃ W : Nat → Nat → Hp → Prop, (∃ m, W 0 m (upd H D (.lst []))) ∧ ∀ i m H, W i m H →
      ((Itr 0 n).stop i H ∧ Qd D H) ∨ ((Itr 0 n).go i H ∧ ∃ Nx : Hp → Prop, (∀ H', Nx H' → ∃ m', m' < m ∧ W (i + 1) m' H') ∧ ∀ x H', (Itr 0 n).yld i H x H' → g x (wipe σ vs) H' fun σ2 H2 => wipe σ2 vs = wipe σ vs ∧ tt σ2 H2 fun b H3 =>
        if b = true then te σ2 H3 fun y H4 => ∃ acc, H4 D = some (.lst acc) ∧ acc.length < sizeLine ∧ Nx (upd H4 D (.lst (acc ++ [y]))) else Nx H3) := by
  refine comp_goD (M := []) (fun i acc G' H' => acc = ((List.range i).map f).map PyData.bool) walk_range s (line_lt hn) (fun m hm => nomatch hm) (fun _ _ _ => trivial) rfl (fun i acc G' H' D o hp n1 n2 => hp) (fun i acc G' H' D o hp n1 n2 => hp)
    (fun k acc G1 H1 hk E1 hp C C' hC hC' => ?_) (fun G' H' D acc E1 dr hacc hp => ?_)
  · refine stp k G1 H1 hk E1 C C' fun G2 H2 E2 => hC _ G2 H2 (.bool (f k)) E2 (.bl _) ?_
    rw [hp, List.range_succ, List.map_append, List.map_append]
    rfl
  · subst hp
    exact fin G' H' D E1 dr
theorem lcYesC {σ : L2.St} {H : Hp} {te : TE} {C : VK} {C' : Hp → Prop} (h : te σ H C) : tYes σ H fun b H3 => if b = true then te σ H3 C else C' H3 := lcYes h
theorem ixLast {K : PySem.W.Frag} {H : Hp} {p : Addr} {xs : List V} {v : V} {Q : VK} (h : H p = some (.lst (xs ++ [v]))) (q : Q v H) : rIx K (.ref p) (.int (-1)) H Q :=
  .inl ⟨p, xs ++ [v], -1, v, rfl, rfl, SqL.of h, atI_last _ _, q⟩
theorem row_at {ns : List Str} {c : C} {row : List Bool} (h : Rep ns c row) {k : Nat} (hk : k < 2 ^ ns.length) : (row.map V.bl)[(0 + (k : Int)).toNat]? = some (.bl (c.ev (asg ns k))) := by
  rw [show (0 + (k : Int)).toNat = k by omega, List.getElem?_map, h.at_ k hk]
  rfl
theorem tRet_i {te : TE} {D : Ends} {σ : L2.St} {H : Hp} {Q : VK} (e : D.rt = Q) (h : te σ H Q) : tRet te D σ H := by
  subst e
  exact h
end EA
namespace EA
open PySem PySem.Spec PyProof.Rows L2

theorem each_dat {G : Hp} : ∀ {xs : List V} {us : List Value} {ds : List PyData}, Vals xs us → DatA G xs ds → W.EachIs (fun v d => ∃ x : V, RelV x v ∧ Dat G x d) us ds
  | _, _, _, .nil, .nil => .nil
  | _, _, _, .cons r rs, .cons d hd => .cons ⟨_, r, d⟩ (each_dat rs hd)
theorem dat_each {G : Hp} : ∀ {us : List Value} {ds : List PyData}, W.EachIs (fun v d => ∃ x : V, RelV x v ∧ Dat G x d) us ds → ∃ xs, Vals xs us ∧ DatA G xs ds
  | _, _, .nil => ⟨[], .nil, .nil⟩
  | _, _, .cons ⟨x, r, d⟩ h => by
    obtain ⟨xs, a, b⟩ := dat_each h
    exact ⟨x :: xs, .cons r a, .cons d b⟩

def rSortedD (K : PySem.W.Frag) : List V → Hp → VK → Prop := fun vs H Q => ∃ (G : Hp) (a : Addr) (xs : List V) (ds : List PyData), vs = [V.ref a] ∧ H a = some (.lst xs) ∧ Same G H ∧ DatA G xs ds ∧ W.AllAlike ds ∧ (2 ≤ ds.length → W.Sortable ds) ∧ (∀ d ∈ ds, d.depth ≤ 40) ∧
  ∀ ys p, DatA G ys (ds.mergeSort (W.dataLe false id)) → H p = none → Q (.ref p) (upd H p (.lst ys))

theorem perm_short {α : Type} : ∀ {l m : List α}, l.length < 2 → m.Perm l → m = l
  | [], _, _, p => List.Perm.eq_nil p
  | [v], _, _, p => List.perm_singleton.mp p
  | _ :: _ :: _, _, h, _ => absurd h (by simp)
theorem sort_short {α : Type} (le : α → α → Bool) : ∀ {l : List α}, ¬ 2 ≤ l.length → l.mergeSort le = l
  | [], _ => by rw [List.mergeSort]
  | [v], _ => by rw [List.mergeSort]
  | _ :: _ :: _, h => absurd (by simp) h
theorem swo_no : SrtO.Swo (fun _ _ : Value => false) := ⟨fun _ _ _ => rfl, fun _ _ _ _ _ => rfl⟩

theorem cr_sortedD {X : Cx} (hu : X.A.units + 64 < cLine) : CallR X (.builtin "sorted") (rSortedD X.K) := by
  intro pins s σ H vs us Q I r h
  obtain ⟨G, a, xs, ds, rfl, ha, sm, hx, hal, hk, hdp, q⟩ := h
  obtain ⟨its, rv, hl, hz⟩ := I.list (SqL.of ha)
  obtain ⟨u, rfl, ru⟩ := vals1 r
  obtain rfl : u = Value.ref a := ru
  have hz' : its.length ≤ sizeLine := by rw [← rv.length]; exact hz
  have e0 := each_dat rv hx
  have fin : ∀ out : List Value, out.length = its.length → W.EachIs (fun v d => ∃ x : V, RelV x v ∧ Dat G x d) out (ds.mergeSort (W.dataLe false id)) →
      EP X pins σ Q (.ref (s.heap.objs.size + 1)) { s with heap := sortedAll s.heap its out.toArray } := by
    intro out ho eo
    obtain ⟨ys, rys, dys⟩ := dat_each eo
    obtain ⟨n, hn⟩ := sortedAll_at s.heap its out.toArray
    refine ⟨.ref (s.heap.objs.size + 1), upd H (s.heap.objs.size + 1) (.lst ys), I.laid (t' := s.toks) (fun b o e => sortedAll_old e) (Nat.le_succ _) ⟨?_, out, n, rys, hn⟩, rfl, q _ _ dys (I.hok.fresh (Nat.le_succ _))⟩
    rw [rys.length, ho]
    exact hz'
  by_cases h2 : 2 ≤ ds.length
  · refine W.sorted_data (s := s) (vs := its) (bs := ds) (enc := id) hl.isList e0 (e0.mono fun v d ⟨x, rx, dx⟩ => Dp.reads I d x v (dx.dpS sm) rx) (by rw [List.map_id]; exact hal) (by rw [List.map_id]; exact hk h2) (by rw [← e0.length]; exact hz') (fun d hd => ?_) fun out ho eo => fin out (ho.trans e0.length.symm) eo
    exact Nat.lt_of_le_of_lt (Nat.add_le_add (Nat.le_refl (X.A.units + 2)) (hdp d hd)) (Nat.lt_of_le_of_lt (Nat.le_trans (Nat.le_of_eq (Nat.add_assoc _ 2 40)) (Nat.add_le_add_left (by decide) _)) hu)
  · have hl2 : its.length < 2 := by rw [e0.length]; omega
    refine SrtO.sorted_ord (s := s) (vs := its) swo_no hl.isList hz' (fun h => absurd h (by omega)) fun out h1 hb => ?_
    have eo : out = its := perm_short hl2 hb.perm
    have es : ds.mergeSort (W.dataLe false id) = ds := sort_short _ h2
    refine fin out (by rw [eo]) ?_
    rw [es, eo]
    exact e0

/- sorted lists of the same things are one -/
theorem sort_same {le : PyData → PyData → Bool} (tr : ∀ a b c, le a b = true → le b c = true → le a c = true) (tt : ∀ a b, (le a b || le b a) = true) :
    ∀ {l m : List PyData}, l.Pairwise (fun a b => le a b = true) → m.Pairwise (fun a b => le a b = true) → l.Perm m → (∀ a ∈ l, ∀ b ∈ l, le a b = true → le b a = true → a = b) → l = m
  | [], m, _, _, p, _ => (List.Perm.nil_eq p)
  | x :: l, [], _, _, p, _ => absurd p.length_eq (by simp)
  | x :: l, y :: m, hl, hm, p, as => by
    have rf : ∀ a, le a a = true := fun a => by have := tt a a; rw [Bool.or_self] at this; exact this
    have hy : y ∈ x :: l := p.mem_iff.mpr List.mem_cons_self
    have hx : x ∈ y :: m := p.mem_iff.mp List.mem_cons_self
    have a1 : le x y = true := by
      rcases List.mem_cons.mp hy with e | e
      · rw [e]; exact rf x
      · exact (List.pairwise_cons.mp hl).1 y e
    have a2 : le y x = true := by
      rcases List.mem_cons.mp hx with e | e
      · rw [e]; exact rf y
      · exact (List.pairwise_cons.mp hm).1 x e
    have e := as x List.mem_cons_self y hy a1 a2
    subst e
    rw [sort_same tr tt (List.pairwise_cons.mp hl).2 (List.pairwise_cons.mp hm).2 p.cons_inv fun a ha b hb => as a (List.mem_cons_of_mem _ ha) b (List.mem_cons_of_mem _ hb)]

theorem toks_inj {x y : PyData} (h : W.alike x y = true) (e : W.keyToks x = W.keyToks y) : PyData.eqv x y = true := by
  cases he : PyData.eqv x y with
  | true => rfl
  | false =>
    have t := (W.toks_eqv x y h).2 he [.inl 0] [.inl 1]
    rw [e, W.lex_pre] at t
    rw [PyProof.Rows.lex_irrefl (O := itemOrd)] at t
    exact absurd t (by decide)

theorem sort_perm {l m : List PyData} (p : l.Perm m) (h : ∀ a ∈ l, ∀ b ∈ l, W.alike a b = true ∧ (PyData.eqv a b = true → a = b)) : l.mergeSort (W.dataLe false id) = m.mergeSort (W.dataLe false id) := by
  have T := W.sortLe_total (PyProof.Rows.listOrd itemOrd) false (fun b : PyData => W.keyToks b)
  have tr : ∀ a b c, W.dataLe false id a b = true → W.dataLe false id b c = true → W.dataLe (β := PyData) false id a c = true := fun a b c => T.trans a b c
  have tt : ∀ a b, (W.dataLe false id a b || W.dataLe (β := PyData) false id b a) = true := fun a b => by
    rcases T.total a b with h | h
    · rw [show W.dataLe (β := PyData) false id a b = true from h]; rfl
    · rw [show W.dataLe (β := PyData) false id b a = true from h]; exact Bool.or_true _
  refine sort_same tr tt (List.pairwise_mergeSort (fun a b c => tr a b c) (fun a b => tt a b) l) (List.pairwise_mergeSort (fun a b c => tr a b c) (fun a b => tt a b) m) (((List.mergeSort_perm l _).trans p).trans (List.mergeSort_perm m _).symm) ?_
  intro a ha b hb h1 h2
  have ha' := (List.mergeSort_perm l _).mem_iff.mp ha
  have hb' := (List.mergeSort_perm l _).mem_iff.mp hb
  obtain ⟨al, inj⟩ := h a ha' b hb'
  refine inj (toks_inj al ?_)
  have h1' : (!PyProof.Rows.lexLt itemOrd (W.keyToks b) (W.keyToks a)) = true := h1
  have h2' : (!PyProof.Rows.lexLt itemOrd (W.keyToks a) (W.keyToks b)) = true := h2
  exact PyProof.Rows.lex_total (O := itemOrd) _ _ (by simpa using h2') (by simpa using h1')
end EA
namespace EA
open PySem PySem.Spec PyProof.Rows L2

/-! ### part settings -/
abbrev Pt : Type := List (Str × Bool)
/- a setting keeps a part -/
def Kp (f : Str → Bool) (l : Pt) : Prop := ∀ r ∈ l, f r.1 = r.2
def drp (l : Pt) (s : Str) : Pt := l.filter fun r => decide (r.1 ≠ s)
/- the condition always holds under the part -/
def Alw (c : C) (l : Pt) : Prop := ∀ f, Kp f l → c.ev f = true
def Lst (c : C) (l : Pt) : Prop := Alw c l ∧ ∀ s ∈ l.map (·.1), ¬ Alw c (drp l s)
def Sub (ns : List Str) (l : Pt) : Prop := (l.map (·.1)).Sublist ns
theorem kp_cons {f : Str → Bool} {s : Str} {b : Bool} {l : Pt} : Kp f ((s, b) :: l) ↔ f s = b ∧ Kp f l := by
  unfold Kp
  rw [List.forall_mem_cons]
theorem kp_fset {f : Str → Bool} {s : Str} {o : Bool} {l : Pt} (h : s ∉ l.map (·.1)) : Kp (fset f s o) l ↔ Kp f l := by
  have e : ∀ r ∈ l, fset f s o r.1 = f r.1 := fun r hr => by
    show (if r.1 = s then o else f r.1) = f r.1
    rw [if_neg fun e => h (List.mem_map.mpr ⟨r, hr, e⟩)]
  exact ⟨fun k r hr => (e r hr).symm.trans (k r hr), fun k r hr => (e r hr).trans (k r hr)⟩
theorem fset_at (f : Str → Bool) (s : Str) (o : Bool) : fset f s o s = o := if_pos rfl
/- under a head -/
theorem alw_cons {ys : List Str} {s : Str} {x y : C} {b : Bool} {l : Pt} (hx : OC ys x) (hy : OC ys y) (ns : s ∉ ys) (nl : s ∉ l.map (·.1)) : Alw (.nd s x y) ((s, b) :: l) ↔ Alw (if b then x else y) l := by
  have hz : OC ys (if b then x else y) := by cases b; exact hy; exact hx
  refine ⟨fun h f k => ?_, fun h f k => ?_⟩
  · have t := h (fset f s b) (kp_cons.mpr ⟨fset_at f s b, (kp_fset nl).mpr k⟩)
    rw [← hz.ev_fset (f := f) (o := b) ns]
    have t : (if fset f s b s then x.ev (fset f s b) else y.ev (fset f s b)) = true := t
    rw [fset_at] at t
    cases b <;> exact t
  · obtain ⟨k1, k2⟩ := kp_cons.mp k
    show (if f s then x.ev f else y.ev f) = true
    have t := h f k2
    rw [k1]
    cases b <;> exact t
theorem alw_both {ys : List Str} {s : Str} {x y : C} {l : Pt} (hx : OC ys x) (hy : OC ys y) (ns : s ∉ ys) (nl : s ∉ l.map (·.1)) : Alw (.nd s x y) l ↔ Alw x l ∧ Alw y l := by
  have one : ∀ (b : Bool), Alw (.nd s x y) l → Alw (if b then x else y) l := fun b h => (alw_cons hx hy ns nl).mp fun f k => h f (kp_cons.mp k).2
  refine ⟨fun h => ⟨one true h, one false h⟩, fun ⟨h1, h2⟩ f k => ?_⟩
  show (if f s then x.ev f else y.ev f) = true
  cases f s
  · exact h2 f k
  · exact h1 f k
theorem drp_names {l : Pt} {s t : Str} (h : t ∉ l.map (·.1)) : t ∉ (drp l s).map (·.1) := fun m => by
  obtain ⟨r, hr, e⟩ := List.mem_map.mp m
  exact h (List.mem_map.mpr ⟨r, (List.mem_filter.mp hr).1, e⟩)
theorem drp_cons_ne {l : Pt} {s t : Str} {b : Bool} (h : t ≠ s) : drp ((t, b) :: l) s = (t, b) :: drp l s := List.filter_cons_of_pos (by simpa using h)
theorem drp_no {l : Pt} {s : Str} (h : s ∉ l.map (·.1)) : drp l s = l := List.filter_eq_self.mpr fun r hr => by
  have : r.1 ≠ s := fun e => h (List.mem_map.mpr ⟨r, hr, e⟩)
  simpa using this
theorem drp_head {l : Pt} {s : Str} {b : Bool} (h : s ∉ l.map (·.1)) : drp ((s, b) :: l) s = l := by
  have e : drp ((s, b) :: l) s = drp l s := List.filter_cons_of_neg (by simp)
  rw [e, drp_no h]
theorem lst_both {ys : List Str} {s : Str} {x y d : C} {l : Pt} (hx : OC ys x) (hy : OC ys y) (ns : s ∉ ys) (nl : s ∉ l.map (·.1)) (hd : ∀ f, d.ev f = (x.ev f && y.ev f)) : Lst (.nd s x y) l ↔ Lst d l := by
  have a : ∀ m : Pt, s ∉ m.map (·.1) → (Alw (.nd s x y) m ↔ Alw d m) := fun m hm => by
    rw [alw_both hx hy ns hm]
    refine ⟨fun ⟨h1, h2⟩ f k => by rw [hd, h1 f k, h2 f k]; rfl, fun h => ⟨fun f k => ?_, fun f k => ?_⟩⟩
    · have t := h f k
      rw [hd, Bool.and_eq_true] at t
      exact t.1
    · have t := h f k
      rw [hd, Bool.and_eq_true] at t
      exact t.2
  unfold Lst
  rw [a l nl]
  refine and_congr Iff.rfl ⟨fun h t ht k => h t ht ((a _ (drp_names nl)).mpr k), fun h t ht k => h t ht ((a _ (drp_names nl)).mp k)⟩
theorem lst_cons {ys : List Str} {s : Str} {x y : C} {b : Bool} {l : Pt} (hx : OC ys x) (hy : OC ys y) (ns : s ∉ ys) (nl : s ∉ l.map (·.1)) :
    Lst (.nd s x y) ((s, b) :: l) ↔ Lst (if b then x else y) l ∧ ¬ Alw (if b then y else x) l := by
  unfold Lst
  rw [alw_cons hx hy ns nl, List.map_cons, List.forall_mem_cons, drp_head nl, alw_both hx hy ns nl]
  constructor
  · rintro ⟨h1, h2, h3⟩
    refine ⟨⟨h1, fun t ht k => h3 t ht ?_⟩, fun k => h2 ?_⟩
    · rw [drp_cons_ne fun e => nl (by rw [e]; exact ht)]
      exact (alw_cons hx hy ns (drp_names nl)).mpr k
    · cases b
      · exact ⟨k, h1⟩
      · exact ⟨h1, k⟩
  · rintro ⟨⟨h1, h3⟩, h2⟩
    refine ⟨h1, fun k => h2 ?_, fun t ht k => h3 t ht ?_⟩
    · cases b
      · exact k.1
      · exact k.2
    · rw [drp_cons_ne fun e => nl (by rw [e]; exact ht)] at k
      exact (alw_cons hx hy ns (drp_names nl)).mp k
/- the causes, all of them, once -/
structure CL (ns : List Str) (c : C) (ls : List Pt) : Prop where
  nd : ls.Nodup
  mem : ∀ l, l ∈ ls ↔ Sub ns l ∧ Lst c l
  few : ls.length ≤ 3 ^ ns.length
theorem sub_cons {n : Str} {ns : List Str} {l : Pt} : Sub (n :: ns) l ↔ Sub ns l ∨ ∃ b m, l = (n, b) :: m ∧ Sub ns m := by
  unfold Sub
  constructor
  · intro h
    match l, h with
    | [], _ => exact .inl (List.nil_sublist _)
    | (s, b) :: m, h =>
      rw [List.map_cons] at h ⊢
      cases h with
      | cons _ h => exact .inl h
      | cons_cons _ h => exact .inr ⟨b, m, rfl, h⟩
  · rintro (h | ⟨b, m, rfl, h⟩)
    · exact h.cons _
    · exact h.cons_cons _
theorem Sub.names {ns : List Str} {l : Pt} (h : Sub ns l) {s : Str} (n : s ∉ ns) : s ∉ l.map (·.1) := fun m => n (h.subset m)
theorem CL.up {n : Str} {ns : List Str} {c : C} {ls : List Pt} (h : CL ns c ls) (hc : OC ns c) (nn : n ∉ ns) : CL (n :: ns) c ls := by
  refine ⟨h.nd, fun l => ?_, Nat.le_trans h.few (Nat.pow_le_pow_right (by decide) (by simp))⟩
  rw [h.mem, sub_cons]
  refine ⟨fun ⟨a, b⟩ => ⟨.inl a, b⟩, ?_⟩
  rintro ⟨a | ⟨b, m, rfl, hm⟩, L⟩
  · exact ⟨a, L⟩
  · refine absurd (fun f k => ?_) (L.2 n (by simp))
    have nm := hm.names nn
    rw [drp_head nm] at k
    have t := L.1 (fset f n b) (kp_cons.mpr ⟨fset_at f n b, (kp_fset nm).mpr k⟩)
    rw [hc.ev_fset nn] at t
    exact t
theorem CL.ups {ns : List Str} {c : C} {ls : List Pt} (h : CL ns c ls) (hc : OC ns c) : ∀ {pre : List Str}, (pre ++ ns).Nodup → CL (pre ++ ns) c ls
  | [], _ => h
  | n :: pre, nd => (h.ups hc (List.nodup_cons.mp nd).2).up (hc.app pre) (List.nodup_cons.mp nd).1
theorem kp_ex : ∀ {l : Pt}, (l.map (·.1)).Nodup → ∃ f, Kp f l
  | [], _ => ⟨fun _ => false, fun _ h => nomatch h⟩
  | (s, b) :: l, h => by
    rw [List.map_cons] at h
    obtain ⟨h1, h2⟩ := List.nodup_cons.mp h
    obtain ⟨f, k⟩ := kp_ex h2
    exact ⟨fset f s b, kp_cons.mpr ⟨fset_at f s b, (kp_fset h1).mpr k⟩⟩
theorem Sub.nd {ns : List Str} {l : Pt} (h : Sub ns l) (nd : ns.Nodup) : (l.map (·.1)).Nodup := List.Nodup.sublist h nd
theorem cl_no {ns : List Str} (nd : ns.Nodup) : CL ns (.b false) [] := ⟨List.nodup_nil, fun l => ⟨fun h => (nomatch h), fun ⟨h, L⟩ => by
  obtain ⟨f, k⟩ := kp_ex (h.nd nd)
  exact absurd (L.1 f k) Bool.false_ne_true⟩, Nat.zero_le _⟩
theorem cl_yes (ns : List Str) : CL ns (.b true) [[]] := ⟨by simp, fun l => by
  rw [List.mem_singleton]
  constructor
  · rintro rfl
    exact ⟨List.nil_sublist _, fun _ _ => rfl, fun s h => nomatch h⟩
  · rintro ⟨_, L⟩
    match l, L with
    | [], _ => rfl
    | (s, b) :: m, L => exact absurd (fun _ _ => rfl) (L.2 s (by simp)), Nat.one_le_iff_ne_zero.mpr (Nat.pos_iff_ne_zero.mp (Nat.pow_pos (by decide)))⟩
theorem nodup_map_cons {α : Type} (a : α) : ∀ {l : List (List α)}, l.Nodup → (l.map (a :: ·)).Nodup := fun h => List.pairwise_map.mpr (h.imp fun n e => n (List.cons.inj e).2)
theorem CL.step {s : Str} {ys : List Str} {x y d : C} {l0 l1 l2 : List Pt} {p1 p2 : Pt → Bool} (nd : (s :: ys).Nodup) (hx : OC ys x) (hy : OC ys y) (hd : ∀ f, d.ev f = (x.ev f && y.ev f)) (h0 : CL ys d l0) (h1 : CL ys y l1) (h2 : CL ys x l2)
    (e1 : ∀ l ∈ l1, (p1 l = true ↔ ¬ Alw x l)) (e2 : ∀ l ∈ l2, (p2 l = true ↔ ¬ Alw y l)) : CL (s :: ys) (.nd s x y) (l0 ++ (l1.filter p1).map ((s, false) :: ·) ++ (l2.filter p2).map ((s, true) :: ·)) := by
  obtain ⟨ns, ndy⟩ := List.nodup_cons.mp nd
  refine ⟨?_, fun l => ?_, ?_⟩
  · rw [List.nodup_append, List.nodup_append]
    refine ⟨⟨h0.nd, nodup_map_cons _ (h1.nd.sublist List.filter_sublist), fun a ha b hb e => ?_⟩, nodup_map_cons _ (h2.nd.sublist List.filter_sublist), fun a ha b hb e => ?_⟩
    · obtain ⟨m, hm, rfl⟩ := List.mem_map.mp hb
      subst e
      exact ((h0.mem _).mp ha).1.names ns (by simp)
    · obtain ⟨m, hm, rfl⟩ := List.mem_map.mp hb
      subst e
      rcases List.mem_append.mp ha with ha | ha
      · exact ((h0.mem _).mp ha).1.names ns (by simp)
      · obtain ⟨m', _, e⟩ := List.mem_map.mp ha
        have := (List.cons.inj e).1
        exact absurd (congrArg (·.2) this) (by simp)
  · rw [List.mem_append, List.mem_append, sub_cons]
    constructor
    · rintro ((h | h) | h)
      · obtain ⟨a, b⟩ := (h0.mem _).mp h
        exact ⟨.inl a, (lst_both hx hy ns (a.names ns) hd).mpr b⟩
      · obtain ⟨m, hm, rfl⟩ := List.mem_map.mp h
        obtain ⟨hm, pm⟩ := List.mem_filter.mp hm
        obtain ⟨a, b⟩ := (h1.mem _).mp hm
        exact ⟨.inr ⟨_, _, rfl, a⟩, (lst_cons (b := false) hx hy ns (a.names ns)).mpr ⟨b, (e1 _ hm).mp pm⟩⟩
      · obtain ⟨m, hm, rfl⟩ := List.mem_map.mp h
        obtain ⟨hm, pm⟩ := List.mem_filter.mp hm
        obtain ⟨a, b⟩ := (h2.mem _).mp hm
        exact ⟨.inr ⟨_, _, rfl, a⟩, (lst_cons (b := true) hx hy ns (a.names ns)).mpr ⟨b, (e2 _ hm).mp pm⟩⟩
    · rintro ⟨a | ⟨b, m, rfl, a⟩, L⟩
      · exact .inl (.inl ((h0.mem _).mpr ⟨a, (lst_both hx hy ns (a.names ns) hd).mp L⟩))
      · obtain ⟨L1, L2⟩ := (lst_cons hx hy ns (a.names ns)).mp L
        cases b with
        | false =>
          have hm := (h1.mem m).mpr ⟨a, L1⟩
          exact .inl (.inr (List.mem_map.mpr ⟨m, List.mem_filter.mpr ⟨hm, (e1 m hm).mpr L2⟩, rfl⟩))
        | true =>
          have hm := (h2.mem m).mpr ⟨a, L1⟩
          exact .inr (List.mem_map.mpr ⟨m, List.mem_filter.mpr ⟨hm, (e2 m hm).mpr L2⟩, rfl⟩)
  · have f0 := h0.few
    have f1 := h1.few
    have f2 := h2.few
    have g1 := List.length_filter_le p1 l1
    have g2 := List.length_filter_le p2 l2
    rw [List.length_append, List.length_append, List.length_map, List.length_map, List.length_cons, Nat.pow_succ]
    omega
/- two or more causes are none of them empty -/
theorem CL.more {ns : List Str} {c : C} {ls : List Pt} (h : CL ns c ls) (k : 2 ≤ ls.length) : ∀ l ∈ ls, l ≠ [] := by
  intro l hl e
  subst e
  have A := ((h.mem _).mp hl).2.1
  have al : ∀ m, Alw c m := fun m f _ => A f (fun _ z => nomatch z)
  have all : ∀ m ∈ ls, m = [] := fun m hm => by
    have L := ((h.mem _).mp hm).2
    match m, L with
    | [], _ => rfl
    | (s, b) :: m, L => exact absurd (al _) (L.2 s (by simp))
  match ls, k, h.nd, all with
  | a :: b :: r, _, nd, all =>
    have e1 := all a (by simp)
    have e2 := all b (by simp)
    rw [e1, e2] at nd
    exact (List.nodup_cons.mp nd).1 (by simp)
/- the condition of a part -/
def pc : Pt → C
  | [] => .b true
  | (s, b) :: l => if b then C.formed s (pc l) (.b false) else C.formed s (.b false) (pc l)
theorem pc_ev {f : Str → Bool} : ∀ {l : Pt}, (pc l).ev f = true ↔ Kp f l
  | [] => ⟨fun _ _ h => (nomatch h), fun _ => rfl⟩
  | (s, b) :: l => by
    rw [kp_cons, ← pc_ev (l := l)]
    show (if b then C.formed s (pc l) (.b false) else C.formed s (.b false) (pc l)).ev f = true ↔ _
    cases b
    · rw [if_neg Bool.false_ne_true, C.ev_formed]
      cases f s
      · rw [if_neg Bool.false_ne_true]
        exact ⟨fun h => ⟨rfl, h⟩, fun h => h.2⟩
      · rw [if_pos rfl]
        exact ⟨fun h => absurd h Bool.false_ne_true, fun h => absurd h.1 (by decide)⟩
    · rw [if_pos rfl, C.ev_formed]
      cases f s
      · rw [if_neg Bool.false_ne_true]
        exact ⟨fun h => absurd h Bool.false_ne_true, fun h => absurd h.1 (by decide)⟩
      · rw [if_pos rfl]
        exact ⟨fun h => ⟨rfl, h⟩, fun h => h.2⟩
theorem pc_oc : ∀ {ns : List Str} {l : Pt}, Sub ns l → OC ns (pc l)
  | [], l, h => by
    have e : l.map (·.1) = [] := List.sublist_nil.mp h
    have e : l = [] := List.map_eq_nil_iff.mp e
    subst e
    exact .leaf _
  | n :: ns, l, h => by
    rcases sub_cons.mp h with h | ⟨b, m, rfl, hm⟩
    · exact .skip (pc_oc h)
    · have k := pc_oc hm
      cases b
      · exact OC.formed (.leaf _) k
      · exact OC.formed k (.leaf _)
theorem implies_alw {c : C} {l : Pt} : (∀ f, (pc l).ev f = true → c.ev f = true) ↔ Alw c l := ⟨fun h f k => h f (pc_ev.mpr k), fun h f k => h f (pc_ev.mp k)⟩
/-! ### parts by their rows -/
def OP : Nat → List (List Nat)
  | 0 => [[]]
  | n + 1 => (OP n).map (· ++ [0]) ++ (OP n).map (· ++ [1]) ++ (OP n).map (· ++ [2])
theorem op_mem : ∀ {n : Nat} {p : List Nat}, p ∈ OP n ↔ p.length = n ∧ ∀ x ∈ p, x ≤ 2
  | 0, p => by
    show p ∈ [[]] ↔ _
    rw [List.mem_singleton]
    exact ⟨fun h => by subst h; exact ⟨rfl, fun _ h => nomatch h⟩, fun h => List.eq_nil_of_length_eq_zero h.1⟩
  | n + 1, p => by
    show p ∈ (OP n).map (· ++ [0]) ++ (OP n).map (· ++ [1]) ++ (OP n).map (· ++ [2]) ↔ _
    rw [List.mem_append, List.mem_append]
    have one : ∀ a, a ≤ 2 → p ∈ (OP n).map (· ++ [a]) → p.length = n + 1 ∧ ∀ x ∈ p, x ≤ 2 := fun a ha h => by
      obtain ⟨m, hm, rfl⟩ := List.mem_map.mp h
      obtain ⟨h1, h2⟩ := op_mem.mp hm
      refine ⟨by rw [List.length_append, h1]; rfl, fun x hx => ?_⟩
      rcases List.mem_append.mp hx with hx | hx
      · exact h2 x hx
      · rw [List.mem_singleton.mp hx]; exact ha
    constructor
    · rintro ((h | h) | h)
      · exact one 0 (by decide) h
      · exact one 1 (by decide) h
      · exact one 2 (by decide) h
    · rintro ⟨h1, h2⟩
      have ne : p ≠ [] := fun e => by rw [e] at h1; cases h1
      have e := List.dropLast_concat_getLast ne
      have m1 : p.dropLast ∈ OP n := op_mem.mpr ⟨by rw [List.length_dropLast, h1]; rfl, fun x hx => h2 x (List.dropLast_subset p hx)⟩
      have m2 := h2 _ (List.getLast_mem ne)
      generalize p.getLast ne = a at e m2
      rw [← e]
      match a, m2 with
      | 0, _ => exact .inl (.inl (List.mem_map.mpr ⟨_, m1, rfl⟩))
      | 1, _ => exact .inl (.inr (List.mem_map.mpr ⟨_, m1, rfl⟩))
      | 2, _ => exact .inr (List.mem_map.mpr ⟨_, m1, rfl⟩)
theorem op_len : ∀ n : Nat, (OP n).length = 3 ^ n
  | 0 => rfl
  | n + 1 => by
    show ((OP n).map (· ++ [0]) ++ (OP n).map (· ++ [1]) ++ (OP n).map (· ++ [2])).length = _
    rw [List.length_append, List.length_append, List.length_map, List.length_map, List.length_map, op_len n, Nat.pow_succ]
    omega
theorem op_nd : ∀ n : Nat, (OP n).Nodup
  | 0 => by show [([] : List Nat)].Nodup; simp
  | n + 1 => by
    have ih := op_nd n
    have one : ∀ a, ((OP n).map (· ++ [a])).Nodup := fun a => List.pairwise_map.mpr (ih.imp fun h e => h (List.append_cancel_right e))
    have two : ∀ a b, a ≠ b → ∀ p ∈ (OP n).map (· ++ [a]), ∀ q ∈ (OP n).map (· ++ [b]), p ≠ q := fun a b ne p hp q hq e => by
      obtain ⟨m, hm, rfl⟩ := List.mem_map.mp hp
      obtain ⟨m', hm', rfl⟩ := List.mem_map.mp hq
      have l1 := (op_mem.mp hm).1
      have l2 := (op_mem.mp hm').1
      have := (List.append_inj e (by rw [l1, l2])).2
      exact ne (List.cons.inj this).1
    show ((OP n).map (· ++ [0]) ++ (OP n).map (· ++ [1]) ++ (OP n).map (· ++ [2])).Nodup
    rw [List.nodup_append, List.nodup_append]
    refine ⟨⟨one 0, one 1, two 0 1 (by decide)⟩, one 2, fun a ha b hb => ?_⟩
    rcases List.mem_append.mp ha with ha | ha
    · exact two 0 2 (by decide) a ha b hb
    · exact two 1 2 (by decide) a ha b hb
def prs : List Str → List Nat → Pt
  | n :: ns, x :: p => if x = 2 then prs ns p else (n, x == 1) :: prs ns p
  | _, _ => []
theorem prs_sub : ∀ (ns : List Str) (p : List Nat), Sub ns (prs ns p)
  | [], p => by unfold prs; exact List.nil_sublist _
  | n :: ns, [] => List.nil_sublist _
  | n :: ns, x :: p => by
    show Sub _ (if x = 2 then prs ns p else (n, x == 1) :: prs ns p)
    refine sub_cons.mpr ?_
    split
    · exact .inl (prs_sub ns p)
    · exact .inr ⟨_, _, rfl, prs_sub ns p⟩
theorem prs_ex : ∀ {ns : List Str} {l : Pt}, Sub ns l → ∃ p, p.length = ns.length ∧ (∀ x ∈ p, x ≤ 2) ∧ prs ns p = l
  | [], l, h => ⟨[], rfl, fun _ h => (nomatch h), by
    have e : l.map (·.1) = [] := List.sublist_nil.mp h
    have e : l = [] := List.map_eq_nil_iff.mp e
    rw [e]; rfl⟩
  | n :: ns, l, h => by
    rcases sub_cons.mp h with h | ⟨b, m, rfl, hm⟩
    · obtain ⟨p, h1, h2, h3⟩ := prs_ex h
      exact ⟨2 :: p, by simp [h1], List.forall_mem_cons.mpr ⟨Nat.le_refl _, h2⟩, by show (if 2 = 2 then prs ns p else _) = l; rw [if_pos rfl, h3]⟩
    · obtain ⟨p, h1, h2, h3⟩ := prs_ex hm
      cases b
      · exact ⟨0 :: p, by simp [h1], List.forall_mem_cons.mpr ⟨by decide, h2⟩, by show (if 0 = 2 then prs ns p else _) = _; rw [if_neg (by decide), h3]; rfl⟩
      · exact ⟨1 :: p, by simp [h1], List.forall_mem_cons.mpr ⟨by decide, h2⟩, by show (if 1 = 2 then prs ns p else _) = _; rw [if_neg (by decide), h3]; rfl⟩
theorem prs_inj : ∀ {ns : List Str} {p q : List Nat}, ns.Nodup → p.length = ns.length → q.length = ns.length → (∀ x ∈ p, x ≤ 2) → (∀ x ∈ q, x ≤ 2) → prs ns p = prs ns q → p = q
  | [], [], [], _, _, _, _, _, _ => rfl
  | n :: ns, x :: p, y :: q, nd, h1, h2, a, b, e => by
    obtain ⟨nn, nd'⟩ := List.nodup_cons.mp nd
    obtain ⟨a1, a2⟩ := List.forall_mem_cons.mp a
    obtain ⟨b1, b2⟩ := List.forall_mem_cons.mp b
    have e : (if x = 2 then prs ns p else (n, x == 1) :: prs ns p) = (if y = 2 then prs ns q else (n, y == 1) :: prs ns q) := e
    have no : ∀ (m : List Nat) (z : Bool) (r : Pt), prs ns m ≠ (n, z) :: r := fun m z r e => by
      have t := (prs_sub ns m).names nn
      rw [e] at t
      exact t (by simp)
    have again : prs ns p = prs ns q → p = q := fun e => prs_inj nd' (by simpa using h1) (by simpa using h2) a2 b2 e
    by_cases hx : x = 2
    · rw [if_pos hx] at e
      by_cases hy : y = 2
      · rw [if_pos hy] at e
        rw [again e, hx, hy]
      · rw [if_neg hy] at e
        exact absurd e (no _ _ _)
    · rw [if_neg hx] at e
      by_cases hy : y = 2
      · rw [if_pos hy] at e
        exact absurd e.symm (no _ _ _)
      · rw [if_neg hy] at e
        obtain ⟨e1, e2⟩ := List.cons.inj e
        rw [again e2]
        have e3 : (x == 1) = (y == 1) := (Prod.mk.inj e1).2
        have e4 : x = y := by
          have hx' : x = 0 ∨ x = 1 := by omega
          have hy' : y = 0 ∨ y = 1 := by omega
          rcases hx' with rfl | rfl <;> rcases hy' with rfl | rfl
          · rfl
          · exact absurd e3 (by decide)
          · exact absurd e3 (by decide)
          · rfl
        rw [e4]
theorem prs_set : ∀ {ns : List Str} {p : List Nat} {i : Nat} {s : Str}, ns.Nodup → p.length = ns.length → ns[i]? = some s → prs ns (p.set i 2) = drp (prs ns p) s
  | [], _, _, _, _, _, h => by simp at h
  | n :: ns, x :: p, 0, s, nd, hl, h => by
    have e : n = s := Option.some.inj h
    subst e
    have nn := (prs_sub ns p).names (List.nodup_cons.mp nd).1
    show (if 2 = 2 then prs ns p else _) = drp (if x = 2 then prs ns p else (n, x == 1) :: prs ns p) n
    rw [if_pos rfl]
    split
    · exact (drp_no nn).symm
    · exact (drp_head nn).symm
  | n :: ns, x :: p, i + 1, s, nd, hl, h => by
    have h' : ns[i]? = some s := by simpa using h
    have ne : n ≠ s := fun e => (List.nodup_cons.mp nd).1 (by rw [e]; exact List.mem_of_getElem? h')
    have ih := prs_set (p := p) (List.nodup_cons.mp nd).2 (by simpa using hl) h'
    show (if x = 2 then prs ns (p.set i 2) else (n, x == 1) :: prs ns (p.set i 2)) = drp (if x = 2 then prs ns p else (n, x == 1) :: prs ns p) s
    rw [ih]
    split
    · rfl
    · exact (drp_cons_ne ne).symm
theorem prs_at : ∀ {ns : List Str} {p : List Nat} {i : Nat} {s : Str} {x : Nat}, ns.Nodup → p.length = ns.length → ns[i]? = some s → p[i]? = some x → (s ∈ (prs ns p).map (·.1) ↔ x ≠ 2)
  | [], _, _, _, _, _, _, h, _ => by simp at h
  | n :: ns, y :: p, 0, s, x, nd, hl, h, k => by
    have e : n = s := Option.some.inj h
    have e2 : y = x := Option.some.inj k
    subst e e2
    have nn := (prs_sub ns p).names (List.nodup_cons.mp nd).1
    show n ∈ (if y = 2 then prs ns p else (n, y == 1) :: prs ns p).map (·.1) ↔ _
    split
    · next e => exact ⟨fun h => absurd h nn, fun h => absurd e h⟩
    · next e => exact ⟨fun _ => e, fun _ => by simp⟩
  | n :: ns, y :: p, i + 1, s, x, nd, hl, h, k => by
    have h' : ns[i]? = some s := by simpa using h
    have ne : s ≠ n := fun e => (List.nodup_cons.mp nd).1 (by rw [← e]; exact List.mem_of_getElem? h')
    have ih := prs_at (p := p) (List.nodup_cons.mp nd).2 (by simpa using hl) h' (by simpa using k)
    show s ∈ (if y = 2 then prs ns p else (n, y == 1) :: prs ns p).map (·.1) ↔ _
    rw [← ih]
    split
    · exact Iff.rfl
    · rw [List.map_cons, List.mem_cons]
      exact ⟨fun h => h.resolve_left ne, .inr⟩
/- the law's own test -/
theorem lst_prs {ns : List Str} {p : List Nat} {c : C} (nd : ns.Nodup) (hl : p.length = ns.length) : Lst c (prs ns p) ↔ Alw c (prs ns p) ∧ ∀ i x, p[i]? = some x → x ≠ 2 → ¬ Alw c (prs ns (p.set i 2)) := by
  refine and_congr Iff.rfl ⟨fun h i x hx n2 k => ?_, fun h s hs k => ?_⟩
  · have li : i < ns.length := by rw [← hl]; exact (List.getElem?_eq_some_iff.mp hx).1
    have hs := List.getElem?_eq_getElem li
    rw [prs_set nd hl hs] at k
    exact h _ ((prs_at nd hl hs hx).mpr n2) k
  · have m := (prs_sub ns p).subset hs
    obtain ⟨i, hi⟩ := List.mem_iff_getElem?.mp m
    have li : i < p.length := by rw [hl]; exact (List.getElem?_eq_some_iff.mp hi).1
    have hx := List.getElem?_eq_getElem li
    rw [← prs_set nd hl hi] at k
    exact h i _ hx ((prs_at nd hl hi hx).mp hs) k
def ins : List Nat → List Bool
  | [] => [true]
  | x :: p => (ins p).map (fun t => t && decide (x ≠ 1)) ++ (ins p).map (fun t => t && decide (x ≠ 0))
theorem ins_len : ∀ p : List Nat, (ins p).length = 2 ^ p.length
  | [] => rfl
  | x :: p => by
    show ((ins p).map _ ++ (ins p).map _).length = _
    rw [List.length_append, List.length_map, List.length_map, ins_len p, List.length_cons, Nat.pow_succ]
    omega
theorem rep_false {ns : List Str} {r : List Bool} (h : r.length = 2 ^ ns.length) : Rep ns (.b false) (r.map fun t => t && false) :=
  ⟨.leaf _, by rw [List.length_map, h], fun k hk => by
    rw [List.getElem?_map, List.getElem?_eq_getElem (by rw [h]; exact hk)]
    show some (_ && false) = some false
    rw [Bool.and_false]⟩
theorem rep_ins : ∀ {ns : List Str} {p : List Nat}, ns.Nodup → p.length = ns.length → (∀ x ∈ p, x ≤ 2) → Rep ns (pc (prs ns p)) (ins p)
  | [], [], _, _, _ => ⟨.leaf _, rfl, fun k hk => by
    have e : k = 0 := by simpa using hk
    subst e
    rfl⟩
  | n :: ns, x :: p, nd, hl, a => by
    obtain ⟨nn, nd'⟩ := List.nodup_cons.mp nd
    obtain ⟨a1, a2⟩ := List.forall_mem_cons.mp a
    have ih := rep_ins nd' (by simpa using hl) a2
    have lp : (ins p).length = 2 ^ ns.length := by rw [ins_len, show p.length = ns.length by simpa using hl]
    have yes : (ins p).map (fun t => t && true) = ins p := by simp
    show Rep (n :: ns) (pc (if x = 2 then prs ns p else (n, x == 1) :: prs ns p)) ((ins p).map (fun t => t && decide (x ≠ 1)) ++ (ins p).map (fun t => t && decide (x ≠ 0)))
    match x, a1 with
    | 0, _ =>
      have k := Rep.form ih (rep_false lp) nn
      show Rep (n :: ns) (C.formed n (.b false) (pc (prs ns p))) ((ins p).map (fun t => t && true) ++ (ins p).map (fun t => t && false))
      rw [yes]
      exact k
    | 1, _ =>
      have k := Rep.form (rep_false lp) ih nn
      show Rep (n :: ns) (C.formed n (pc (prs ns p)) (.b false)) ((ins p).map (fun t => t && false) ++ (ins p).map (fun t => t && true))
      rw [yes]
      exact k
    | 2, _ =>
      have k := Rep.form ih ih nn
      show Rep (n :: ns) (pc (prs ns p)) ((ins p).map (fun t => t && true) ++ (ins p).map (fun t => t && true))
      rw [yes]
      have e : C.formed n (pc (prs ns p)) (pc (prs ns p)) = pc (prs ns p) := if_pos rfl
      rw [e] at k
      exact k
theorem alw_rows {ns : List Str} {p : List Nat} {c : C} {row : List Bool} (nd : ns.Nodup) (hl : p.length = ns.length) (a : ∀ x ∈ p, x ≤ 2) (r : Rep ns c row) :
    (∀ k, k < 2 ^ ns.length → (pc (prs ns p)).ev (asg ns k) = true → c.ev (asg ns k) = true) ↔ Alw c (prs ns p) := by
  rw [← implies_alw]
  refine ⟨fun h f => ?_, fun h k _ => h _⟩
  rw [ev_idx (pc_oc (prs_sub ns p)) nd, ev_idx r.oc nd]
  exact h _ (idx_lt ns f)
theorem due_perm {ns : List Str} {c : C} {ls : List Pt} {g : List Nat → Bool} (nd : ns.Nodup) (h : CL ns c ls) (hg : ∀ p ∈ OP ns.length, (g p = true ↔ Lst c (prs ns p))) : (((OP ns.length).filter g).map (prs ns)).Perm ls := by
  refine (List.perm_ext_iff_of_nodup ?_ h.nd).mpr fun l => ?_
  · refine List.pairwise_map.mpr (List.Pairwise.imp_of_mem ?_ ((op_nd ns.length).sublist List.filter_sublist))
    intro p q hp hq ne e
    have hp := op_mem.mp (List.mem_filter.mp hp).1
    have hq := op_mem.mp (List.mem_filter.mp hq).1
    exact ne (prs_inj nd hp.1 hq.1 hp.2 hq.2 e)
  · rw [h.mem, List.mem_map]
    constructor
    · rintro ⟨p, hp, rfl⟩
      obtain ⟨hp, gp⟩ := List.mem_filter.mp hp
      exact ⟨prs_sub ns p, (hg p hp).mp gp⟩
    · rintro ⟨a, L⟩
      obtain ⟨p, h1, h2, rfl⟩ := prs_ex a
      have hp := op_mem.mpr ⟨h1, h2⟩
      exact ⟨p, List.mem_filter.mpr ⟨hp, (hg p hp).mpr L⟩, rfl⟩
/-! ### as data -/
def prD (l : Pt) : PyData := .tuple (l.map fun r => .tuple [.str r.1, .bool r.2])
end EA
namespace EA
open PySem PySem.Spec PyProof.Rows L2
theorem walk_revT {K : PySem.W.Frag} {a : Addr} {xs : List V} : WalkJ (RT.ItvT K a xs.length) xs.length (fun i => nth xs (xs.length - 1 - i)) (fun H => H a = some (.tup xs)) :=
  ⟨fun i H ok h => ⟨h, xs, nth xs (xs.length - 1 - i), SqT.of ok, nth_at (by omega)⟩, fun i H ok h => h, fun i H v H' ok h y => ⟨y.1, Option.some.inj ((y.2 xs (SqT.of ok)).symm.trans (nth_at (by omega)))⟩⟩
section
variable {X : Cx} {K : PySem.W.Frag}
theorem pi_revAK {tg e : Expr} {te : TE} {p pos : Pos} (hK : X.K = K) (hg : Gl X "reversed") (hm : X.mg "reversed" = none) (he : PE X e te) (hs : starEach [e] X.env = (false, eval e X.env) :: starEach [] X.env := by rfl) : PI X tg (.Call (.Name "reversed" p) [e] [] pos) (RT.iRevA K te) := by
  subst hK; exact RT.pi_revA hg hm he hs
theorem cr_sortedDK (hK : X.K = K) (hu : X.A.units + 64 < cLine) : CallR X (.builtin "sorted") (rSortedD K) := by subst hK; exact cr_sortedD hu
end
theorem comp_map {α : Type} {K : PySem.W.Frag} {b : Addr} {ws : List V} (xs : List α) (enc f : α → PyData) {G H : Hp} {σ : L2.St} {vs : List Nat} {g : TG} {tt : TT} {te : TE} {Qd : Addr → Hp → Prop} (s : Same G H) (eb : H b = some (.lst ws)) (db : DatA G ws (xs.map enc)) (hn : xs.length ≤ 100000)
    (stp : ∀ (x : α) (u : V) (G1 H1 : Hp), x ∈ xs → Ex [] G H G1 H1 → Dat G1 u (enc x) → ∀ (C : VK) (C' : Hp → Prop), (∀ y G2 H2, Ex [] G1 H1 G2 H2 → Dat G2 y (f x) → C y H2) →
      g u (wipe σ vs) H1 fun σ2 H2 => wipe σ2 vs = wipe σ vs ∧ tt σ2 H2 fun b H3 => if b = true then te σ2 H3 C else C' H3)
    (fin : ∀ G' H' D, Ex [] G H G' H' → Dat G' (.ref D) (.list (xs.map f)) → Qd D H') :
    ∀ D, H D = none → ∃ W : Nat → Nat → Hp → Prop, (∃ m, W 0 m (upd H D (.lst []))) ∧ ∀ i m H, W i m H →
      ((Itl K b).stop i H ∧ Qd D H) ∨ ((Itl K b).go i H ∧ ∃ Nx : Hp → Prop, (∀ H', Nx H' → ∃ m', m' < m ∧ W (i + 1) m' H') ∧ ∀ x H', (Itl K b).yld i H x H' → g x (wipe σ vs) H' fun σ2 H2 => wipe σ2 vs = wipe σ vs ∧ tt σ2 H2 fun b H3 =>
        if b = true then te σ2 H3 fun y H4 => ∃ acc, H4 D = some (.lst acc) ∧ acc.length < sizeLine ∧ Nx (upd H4 D (.lst (acc ++ [y]))) else Nx H3) := by
  have lw := db.len
  rw [List.length_map] at lw
  refine comp_goD (M := []) (fun i acc G' H' => acc = (xs.take i).map f) walk_list s (line_lt (by omega)) (fun m hm => nomatch hm) (fun G4 H4 E4 => E4.same _ _ eb) rfl (fun i acc G' H' D o hp n1 n2 => hp) (fun i acc G' H' D o hp n1 n2 => hp)
    (fun j acc G4 H4 hj2 E4 hp C C' hC hC' => ?_) (fun G4 H4 D acc E4 dr hacc hp => ?_)
  · have hj3 : j < xs.length := by omega
    have hg : (xs.map enc)[j]? = some (enc xs[j]) := by rw [List.getElem?_map, List.getElem?_eq_getElem hj3]; rfl
    obtain ⟨u, gu, du⟩ := db.get hg
    have nu : nth ws j = u := Option.some.inj ((nth_at hj2).symm.trans gu)
    rw [nu]
    refine stp xs[j] u G4 H4 (List.getElem_mem hj3) E4 (du.up E4.gg) C C' fun y G2 H2 E2 dy => hC y G2 H2 _ E2 dy ?_
    rw [hp, List.take_add_one, List.getElem?_eq_getElem hj3, List.map_append]
    rfl
  · have e : acc = xs.map f := by
      rw [hp, List.take_of_length_le (by omega)]
    subst e
    exact fin G4 H4 D E4 dr
abbrev natsD (p : List Nat) : PyData := .list (p.map fun x => PyData.int (x : Nat))
theorem DatA.nats {G : Hp} (p : List Nat) : DatA G (p.map fun x => V.int (x : Nat)) (p.map fun x => PyData.int (x : Nat)) := by
  induction p with
  | nil => exact .nil
  | cons x p ih => exact .cons (.int _) ih
theorem DatA.nats_inv {G : Hp} : ∀ {p : List Nat} {vs : List V}, DatA G vs (p.map fun x => PyData.int (x : Nat)) → vs = p.map fun x => V.int (x : Nat)
  | [], _, h => by cases h; rfl
  | x :: p, _, h => by
    cases h with
    | cons a b => rw [a.int_inv, b.nats_inv]; rfl
theorem gTup_i {K : PySem.W.Frag} {n : Nat} {xs : List V} {a : Addr} {g : TGs} {σ : L2.St} {H : Hp} {Q : L2.St → Hp → Prop} (h : H a = some (.tup xs)) (hn : xs.length = n) (q : g xs σ H Q) : gTup K n g (.ref a) σ H Q := ⟨a, xs, rfl, SqT.of h, hn, q⟩
theorem gCons_i {t : TG} {u : TGs} {v : V} {r : List V} {σ : L2.St} {H : Hp} {Q : L2.St → Hp → Prop} (h : t v σ H fun σ' H' => u r σ' H' Q) : gCons t u (v :: r) σ H Q := ⟨v, r, rfl, h⟩
theorem gNil_i {σ : L2.St} {H : Hp} {Q : L2.St → Hp → Prop} (h : Q σ H) : gNil [] σ H Q := ⟨rfl, h⟩
theorem catL {K : PySem.W.Frag} {H : Hp} {l b : Addr} {xs zs : List V} {Q : VK} (h1 : H l = some (.lst xs)) (h2 : H b = some (.lst zs)) (hn : xs.length + zs.length ≤ 100000) (q : ∀ p, H p = none → Q (.ref p) (upd H p (.lst (xs ++ zs)))) : rAddA K (.ref l) (.ref b) H Q :=
  .inr (.inr (.inl ⟨l, b, xs, zs, rfl, rfl, h1, h2, line_le hn, q⟩))
/- the turns of the causes -/
def PL (ys : List Str) (s : Str) (x y : C) : Nat → List Pt → Prop
  | 0, ls => ∃ d, (∀ f, d.ev f = (x.ev f && y.ev f)) ∧ CL ys d ls
  | i + 1, ls => ∃ l0 lm pm, PL ys s x y i l0 ∧ CL ys (if i = 1 then x else y) lm ∧ (∀ l ∈ lm, (pm l = true ↔ ¬ Alw (if i = 1 then y else x) l)) ∧ ls = l0 ++ (lm.filter pm).map ((s, decide (i = 1)) :: ·)
theorem pl_done {ys : List Str} {s : Str} {x y : C} {ls : List Pt} (nd : (s :: ys).Nodup) (hx : OC ys x) (hy : OC ys y) (h : PL ys s x y 2 ls) : CL (s :: ys) (.nd s x y) ls := by
  obtain ⟨l0, lm, pm, ⟨l00, lm0, pm0, ⟨d, hd, c0⟩, c1, e1, rfl⟩, c2, e2, rfl⟩ := h
  exact CL.step nd hx hy hd c0 c1 c2 e1 e2
theorem pl_few {ys : List Str} {s : Str} {x y : C} : ∀ {i : Nat} {ls : List Pt}, PL ys s x y i ls → ls.length ≤ (i + 1) * 3 ^ ys.length
  | 0, ls, h => by
    obtain ⟨d, _, c⟩ := h
    have := c.few
    omega
  | i + 1, ls, h => by
    obtain ⟨l0, lm, pm, h0, c, _, rfl⟩ := h
    have ih := pl_few h0
    have := c.few
    have g := List.length_filter_le pm lm
    rw [List.length_append, List.length_map, Nat.succ_mul (i + 1)]
    omega
noncomputable def alwB (c : C) (l : Pt) : Bool := @decide (¬ Alw c l) (Classical.propDecidable _)
theorem alwB_iff {c : C} {l : Pt} : alwB c l = true ↔ ¬ Alw c l := by
  unfold alwB
  exact @decide_eq_true_iff _ (Classical.propDecidable _)
noncomputable def lstB (ns : List Str) (c : C) (p : List Nat) : Bool := @decide (Lst c (prs ns p)) (Classical.propDecidable _)
theorem lstB_iff {ns : List Str} {c : C} {p : List Nat} : lstB ns c p = true ↔ Lst c (prs ns p) := by
  unfold lstB
  exact @decide_eq_true_iff _ (Classical.propDecidable _)
theorem take_snoc {α : Type} {l : List α} {i : Nat} (h : i < l.length) : l.take (i + 1) = l.take i ++ [l[i]] := by
  rw [List.take_add_one, List.getElem?_eq_getElem h]
  rfl
theorem filter_snoc {α : Type} {l : List α} {i : Nat} {p : α → Bool} (h : i < l.length) : (l.take (i + 1)).filter p = (l.take i).filter p ++ if p l[i] = true then [l[i]] else [] := by
  rw [take_snoc h, List.filter_append]
  congr 1
  cases e : p l[i] <;> simp [e]
theorem snoc_prD (ls F : List Pt) (r : Str × Bool) (l : Pt) : (ls ++ (F ++ [l]).map (r :: ·)).map prD = (ls ++ F.map (r :: ·)).map prD ++ [prD (r :: l)] := by simp
/-! ### the sorted causes -/
theorem prD_alike (a b : Pt) : W.alike (prD a) (prD b) = true := by
  show W.alikeAll (a.map _) (b.map _) = true
  induction a generalizing b with
  | nil => cases b <;> rfl
  | cons r a ih => cases b with
    | nil => rfl
    | cons q b =>
      show (W.alike _ _ && W.alikeAll _ _) = true
      rw [ih b]
      rfl
theorem prD_inj {a b : Pt} (h : PyData.eqv (prD a) (prD b) = true) : a = b := by
  have h : PyData.eqvAll (a.map fun r => PyData.tuple [.str r.1, .bool r.2]) (b.map fun r => PyData.tuple [.str r.1, .bool r.2]) = true := h
  induction a generalizing b with
  | nil => cases b with
    | nil => rfl
    | cons q b => exact absurd h (by simp [PyData.eqvAll])
  | cons r a ih => cases b with
    | nil => exact absurd h (by simp [PyData.eqvAll])
    | cons q b =>
      rw [List.map_cons, List.map_cons, PyData.eqvAll, Bool.and_eq_true] at h
      have e := ih h.2 h.2
      have e1 : r = q := by
        have h1 := h.1
        simp [PyData.eqv, PyData.eqvAll] at h1
        exact Prod.ext (by simpa using h1.1) (by simpa using h1.2)
      rw [e, e1]
theorem prD_depth (l : Pt) : (prD l).depth ≤ 40 := by
  have k : PyData.depthAll (l.map fun r => PyData.tuple [.str r.1, .bool r.2]) ≤ 5 := by
    induction l with
    | nil => exact Nat.zero_le _
    | cons r l ih => exact Nat.max_le.mpr ⟨by simp [PyData.depth, PyData.depthAll], ih⟩
  show PyData.depthAll _ + 1 ≤ 40
  omega
theorem prD_all (ls : List Pt) : W.AllAlike (ls.map prD) := by
  intro d hd d' hd'
  obtain ⟨a, _, rfl⟩ := List.mem_map.mp hd
  obtain ⟨b, _, rfl⟩ := List.mem_map.mp hd'
  exact prD_alike a b
theorem prD_sortable {ls : List Pt} (h : ∀ l ∈ ls, l ≠ []) : W.Sortable (ls.map prD) := .inl fun d hd => by
  obtain ⟨l, hl, rfl⟩ := List.mem_map.mp hd
  match l, h l hl with
  | r :: l, _ => exact ⟨_, _, rfl⟩
theorem prD_sorted {l m : List Pt} (p : l.Perm m) : (l.map prD).mergeSort (W.dataLe false id) = (m.map prD).mergeSort (W.dataLe false id) :=
  sort_perm (p.map prD) fun a ha b hb => by
    obtain ⟨x, _, rfl⟩ := List.mem_map.mp ha
    obtain ⟨y, _, rfl⟩ := List.mem_map.mp hb
    exact ⟨prD_alike x y, fun e => by rw [prD_inj e]⟩
theorem prs_snoc : ∀ {ns : List Str} {p : List Nat} {i : Nat} {n : Str} {x : Nat}, ns[i]? = some n → p[i]? = some x → prs (ns.take (i + 1)) (p.take (i + 1)) = prs (ns.take i) (p.take i) ++ if x = 2 then [] else [(n, x == 1)]
  | [], _, _, _, _, h, _ => by simp at h
  | _ :: _, [], _, _, _, _, h => by simp at h
  | m :: ns, y :: p, 0, n, x, h, k => by
    have e : m = n := Option.some.inj h
    have e2 : y = x := Option.some.inj k
    subst e e2
    show (if y = 2 then prs (ns.take 0) (p.take 0) else (m, y == 1) :: prs (ns.take 0) (p.take 0)) = prs [] [] ++ _
    rfl
  | m :: ns, y :: p, i + 1, n, x, h, k => by
    have ih := prs_snoc (ns := ns) (p := p) (i := i) (n := n) (x := x) (by simpa using h) (by simpa using k)
    show (if y = 2 then prs (ns.take (i + 1)) (p.take (i + 1)) else (m, y == 1) :: prs (ns.take (i + 1)) (p.take (i + 1))) = (if y = 2 then prs (ns.take i) (p.take i) else (m, y == 1) :: prs (ns.take i) (p.take i)) ++ _
    rw [ih]
    split <;> rfl
theorem prs_all {ns : List Str} {p : List Nat} {n : Nat} (h1 : ns.length ≤ n) (h2 : p.length ≤ n) : prs (ns.take n) (p.take n) = prs ns p := by
  rw [List.take_of_length_le h1, List.take_of_length_le h2]
end EA
namespace EA
open PySem PySem.Spec PyProof.Rows L2
def topS (i : Nat) : Stmt := PySem.Challenge.pw_eacharm_k04_least_causes_all_told.main.body.getD i (.Pass ⟨0, 0, 0, 0⟩)
abbrev s_formed : Stmt := topS 1
theorem sc_formed : FnScope ["switch", "on", "off"] ["switch", "on", "off"] (defScope s_formed) := ⟨rfl, rfl, rfl, by decide +kernel, rfl, by decide +kernel, by decide +kernel⟩
abbrev s_side_of : Stmt := topS 2
theorem sc_side_of : FnScope ["condition", "switch", "on"] ["condition", "switch", "on"] (defScope s_side_of) := ⟨rfl, rfl, rfl, by decide +kernel, rfl, by decide +kernel, by decide +kernel⟩
abbrev s_no : Stmt := topS 3
theorem sc_no : FnScope ["condition"] ["condition"] (defScope s_no) := ⟨rfl, rfl, rfl, by decide +kernel, rfl, by decide +kernel, by decide +kernel⟩
abbrev s_both : Stmt := topS 4
theorem sc_both : FnScope ["condition", "other", "switch", "on", "off"] ["condition", "other"] (defScope s_both) := ⟨rfl, rfl, rfl, by decide +kernel, rfl, by decide +kernel, by decide +kernel⟩
abbrev s_but_not : Stmt := topS 5
theorem sc_but_not : FnScope ["condition", "other"] ["condition", "other"] (defScope s_but_not) := ⟨rfl, rfl, rfl, by decide +kernel, rfl, by decide +kernel, by decide +kernel⟩
abbrev s_implies : Stmt := topS 6
theorem sc_implies : FnScope ["condition", "other"] ["condition", "other"] (defScope s_implies) := ⟨rfl, rfl, rfl, by decide +kernel, rfl, by decide +kernel, by decide +kernel⟩
abbrev s_part_condition : Stmt := topS 8
theorem sc_part_condition : FnScope ["part", "condition", "switch", "on"] ["part"] (defScope s_part_condition) := ⟨rfl, rfl, rfl, by decide +kernel, rfl, by decide +kernel, by decide +kernel⟩
abbrev s_cause_list : Stmt := topS 9
theorem sc_cause_list : FnScope ["condition", "switch", "on", "off", "found", "turned", "mine", "other", "part"] ["condition"] (defScope s_cause_list) := ⟨rfl, rfl, rfl, by decide +kernel, rfl, by decide +kernel, by decide +kernel⟩
abbrev s_least_causes : Stmt := topS 10
theorem sc_least_causes : FnScope ["condition"] ["condition"] (defScope s_least_causes) := ⟨rfl, rfl, rfl, by decide +kernel, rfl, by decide +kernel, by decide +kernel⟩
abbrev s_hand : Stmt := topS 12
theorem sc_hand : FnScope ["_law_script", "_law_total", "_law_cells", "_law_cell"] ["_law_script"] (defScope s_hand) := ⟨rfl, rfl, rfl, by decide +kernel, rfl, by decide +kernel, by decide +kernel⟩
abbrev s_stirred : Stmt := topS 13
theorem sc_stirred : FnScope ["_law_number", "_law_turn", "_law_once", "_law_twice"] ["_law_number", "_law_turn"] (defScope s_stirred) := ⟨rfl, rfl, rfl, by decide +kernel, rfl, by decide +kernel, by decide +kernel⟩
abbrev s_take : Stmt := topS 14
theorem sc_take : FnScope ["_law_hand_here", "_law_many", "_law_cell", "_law_rest"] ["_law_hand_here", "_law_many"] (defScope s_take) := ⟨rfl, rfl, rfl, by decide +kernel, rfl, by decide +kernel, by decide +kernel⟩
abbrev s_switch_names : Stmt := topS 15
theorem sc_switch_names : FnScope ["_law_hand_here", "_law_many", "_law_told", "_law_k", "_law_turn", "_law_middle", "_law_j"] ["_law_hand_here", "_law_many"] (defScope s_switch_names) := ⟨rfl, rfl, rfl, by decide +kernel, rfl, by decide +kernel, by decide +kernel⟩
abbrev s_settings : Stmt := topS 16
theorem sc_settings : FnScope ["_law_names", "_law_told", "_law_switch", "_law_row"] ["_law_names"] (defScope s_settings) := ⟨rfl, rfl, rfl, by decide +kernel, rfl, by decide +kernel, by decide +kernel⟩
abbrev s_bits : Stmt := topS 17
theorem sc_bits : FnScope ["_law_hand_here", "_law_many", "_law_turn", "_law_one", "_law_k"] ["_law_hand_here", "_law_many"] (defScope s_bits) := ⟨rfl, rfl, rfl, by decide +kernel, rfl, by decide +kernel, by decide +kernel⟩
abbrev s_form : Stmt := topS 18
theorem sc_form : FnScope ["_law_names", "_law_bits_here", "_law_half", "_law_off", "_law_on"] ["_law_names", "_law_bits_here"] (defScope s_form) := ⟨rfl, rfl, rfl, by decide +kernel, rfl, by decide +kernel, by decide +kernel⟩
abbrev s_openings : Stmt := topS 19
theorem sc_openings : FnScope ["_law_many", "_law_told", "_law_k", "_law_row"] ["_law_many"] (defScope s_openings) := ⟨rfl, rfl, rfl, by decide +kernel, rfl, by decide +kernel, by decide +kernel⟩
abbrev s_inside : Stmt := topS 20
theorem sc_inside : FnScope ["_law_part", "_law_told", "_law_one", "_law_truth"] ["_law_part"] (defScope s_inside) := ⟨rfl, rfl, rfl, by decide +kernel, rfl, by decide +kernel, by decide +kernel⟩
abbrev s_always : Stmt := topS 21
theorem sc_always : FnScope ["_law_part", "_law_row", "_law_inside_here", "_law_k"] ["_law_part", "_law_row"] (defScope s_always) := ⟨rfl, rfl, rfl, by decide +kernel, rfl, by decide +kernel, by decide +kernel⟩
abbrev s_is_least : Stmt := topS 22
theorem sc_is_least : FnScope ["_law_part", "_law_row", "_law_at"] ["_law_part", "_law_row"] (defScope s_is_least) := ⟨rfl, rfl, rfl, by decide +kernel, rfl, by decide +kernel, by decide +kernel⟩
abbrev s_whole : Stmt := topS 23
theorem sc_whole : FnScope ["_law_thing"] ["_law_thing"] (defScope s_whole) := ⟨rfl, rfl, rfl, by decide +kernel, rfl, by decide +kernel, by decide +kernel⟩
abbrev s_alike : Stmt := topS 24
theorem sc_alike : FnScope ["_law_told", "_law_due", "_law_k"] ["_law_told", "_law_due"] (defScope s_alike) := ⟨rfl, rfl, rfl, by decide +kernel, rfl, by decide +kernel, by decide +kernel⟩
abbrev s_law : Stmt := topS 25
theorem sc_law : FnScope ["_law_script", "_law_hand_here", "_law_names", "_law_many", "_law_row", "_law_condition", "_law_due", "_law_part", "_law_pairs", "_law_at"] ["_law_script"] (defScope s_law) := ⟨rfl, rfl, rfl, by decide +kernel, rfl, by decide +kernel, by decide +kernel⟩
structure Tp (K : PySem.W.Frag) (mg : Str → Option Value) where
  a_formed : Addr
  d_formed : FuncData
  F_formed : Fun K "formed" "formed" s_formed a_formed d_formed
  g_formed : mg "formed" = some (.ref a_formed)
  b_formed : Binds K d_formed ["switch", "on", "off"] []
  a_side_of : Addr
  d_side_of : FuncData
  F_side_of : Fun K "side_of" "side_of" s_side_of a_side_of d_side_of
  g_side_of : mg "side_of" = some (.ref a_side_of)
  b_side_of : Binds K d_side_of ["condition", "switch", "on"] []
  a_no : Addr
  d_no : FuncData
  F_no : Fun K "no" "no" s_no a_no d_no
  g_no : mg "no" = some (.ref a_no)
  b_no : Binds K d_no ["condition"] []
  a_both : Addr
  d_both : FuncData
  F_both : Fun K "both" "both" s_both a_both d_both
  g_both : mg "both" = some (.ref a_both)
  b_both : Binds K d_both ["condition", "other"] []
  a_but_not : Addr
  d_but_not : FuncData
  F_but_not : Fun K "but_not" "but_not" s_but_not a_but_not d_but_not
  g_but_not : mg "but_not" = some (.ref a_but_not)
  b_but_not : Binds K d_but_not ["condition", "other"] []
  a_implies : Addr
  d_implies : FuncData
  F_implies : Fun K "implies" "implies" s_implies a_implies d_implies
  g_implies : mg "implies" = some (.ref a_implies)
  b_implies : Binds K d_implies ["condition", "other"] []
  a_part_condition : Addr
  d_part_condition : FuncData
  F_part_condition : Fun K "part_condition" "part_condition" s_part_condition a_part_condition d_part_condition
  g_part_condition : mg "part_condition" = some (.ref a_part_condition)
  b_part_condition : Binds K d_part_condition ["part"] []
  a_cause_list : Addr
  d_cause_list : FuncData
  F_cause_list : Fun K "cause_list" "cause_list" s_cause_list a_cause_list d_cause_list
  g_cause_list : mg "cause_list" = some (.ref a_cause_list)
  b_cause_list : Binds K d_cause_list ["condition"] []
  a_least_causes : Addr
  d_least_causes : FuncData
  F_least_causes : Fun K "least_causes" "least_causes" s_least_causes a_least_causes d_least_causes
  g_least_causes : mg "least_causes" = some (.ref a_least_causes)
  b_least_causes : Binds K d_least_causes ["condition"] []
  a_hand : Addr
  d_hand : FuncData
  F_hand : Fun K "_law_hand" "_law_hand" s_hand a_hand d_hand
  g_hand : mg "_law_hand" = some (.ref a_hand)
  b_hand : Binds K d_hand ["_law_script"] []
  a_stirred : Addr
  d_stirred : FuncData
  F_stirred : Fun K "_law_stirred" "_law_stirred" s_stirred a_stirred d_stirred
  g_stirred : mg "_law_stirred" = some (.ref a_stirred)
  b_stirred : Binds K d_stirred ["_law_number", "_law_turn"] []
  a_take : Addr
  d_take : FuncData
  F_take : Fun K "_law_take" "_law_take" s_take a_take d_take
  g_take : mg "_law_take" = some (.ref a_take)
  b_take : Binds K d_take ["_law_hand_here", "_law_many"] []
  a_switch_names : Addr
  d_switch_names : FuncData
  F_switch_names : Fun K "_law_switch_names" "_law_switch_names" s_switch_names a_switch_names d_switch_names
  g_switch_names : mg "_law_switch_names" = some (.ref a_switch_names)
  b_switch_names : Binds K d_switch_names ["_law_hand_here", "_law_many"] []
  a_settings : Addr
  d_settings : FuncData
  F_settings : Fun K "_law_settings" "_law_settings" s_settings a_settings d_settings
  g_settings : mg "_law_settings" = some (.ref a_settings)
  b_settings : Binds K d_settings ["_law_names"] []
  a_bits : Addr
  d_bits : FuncData
  F_bits : Fun K "_law_bits" "_law_bits" s_bits a_bits d_bits
  g_bits : mg "_law_bits" = some (.ref a_bits)
  b_bits : Binds K d_bits ["_law_hand_here", "_law_many"] []
  a_form : Addr
  d_form : FuncData
  F_form : Fun K "_law_form" "_law_form" s_form a_form d_form
  g_form : mg "_law_form" = some (.ref a_form)
  b_form : Binds K d_form ["_law_names", "_law_bits_here"] []
  a_openings : Addr
  d_openings : FuncData
  F_openings : Fun K "_law_openings" "_law_openings" s_openings a_openings d_openings
  g_openings : mg "_law_openings" = some (.ref a_openings)
  b_openings : Binds K d_openings ["_law_many"] []
  a_inside : Addr
  d_inside : FuncData
  F_inside : Fun K "_law_inside" "_law_inside" s_inside a_inside d_inside
  g_inside : mg "_law_inside" = some (.ref a_inside)
  b_inside : Binds K d_inside ["_law_part"] []
  a_always : Addr
  d_always : FuncData
  F_always : Fun K "_law_always" "_law_always" s_always a_always d_always
  g_always : mg "_law_always" = some (.ref a_always)
  b_always : Binds K d_always ["_law_part", "_law_row"] []
  a_is_least : Addr
  d_is_least : FuncData
  F_is_least : Fun K "_law_is_least" "_law_is_least" s_is_least a_is_least d_is_least
  g_is_least : mg "_law_is_least" = some (.ref a_is_least)
  b_is_least : Binds K d_is_least ["_law_part", "_law_row"] []
  a_whole : Addr
  d_whole : FuncData
  F_whole : Fun K "_law_whole" "_law_whole" s_whole a_whole d_whole
  g_whole : mg "_law_whole" = some (.ref a_whole)
  b_whole : Binds K d_whole ["_law_thing"] []
  a_alike : Addr
  d_alike : FuncData
  F_alike : Fun K "_law_alike" "_law_alike" s_alike a_alike d_alike
  g_alike : mg "_law_alike" = some (.ref a_alike)
  b_alike : Binds K d_alike ["_law_told", "_law_due"] []
  a_law : Addr
  d_law : FuncData
  F_law : Fun K "law" "law" s_law a_law d_law
  g_law : mg "law" = some (.ref a_law)
  b_law : Binds K d_law ["_law_script"] []
  z_abs : mg "abs" = none
  z_bool : mg "bool" = none
  z_int : mg "int" = none
  z_isinstance : mg "isinstance" = none
  z_len : mg "len" = none
  z_min : mg "min" = none
  z_range : mg "range" = none
  z_reversed : mg "reversed" = none
  z_sorted : mg "sorted" = none
  z_str : mg "str" = none
  z_tuple : mg "tuple" = none
/-! ### steps of a reading -/
local macro_rules | `(tactic| walk_at "sd") => `(tactic| first | omega | assumption | (unfold CMul; omega) | (unfold CDiv; omega) | (unfold CPow; omega) | (unfold CPow; decide) | decide)
local macro_rules | `(tactic| walk_at "rd1") => `(tactic| first
  | with_reducible refine tC_i ?_
  | with_reducible refine tNil_i ?_
  | with_reducible refine tCons_i ?_
  | refine ⟨_, rfl, ?_⟩
  | refine ⟨_, _, rfl, rfl, (by walk_at "sd"), ?_⟩
  | refine ⟨_, _, rfl, rfl, ?_⟩
  | refine Or.inl ⟨_, _, rfl, rfl, ?_⟩
  | refine Or.inl ⟨_, rfl, ?_⟩
  | refine ixL (by assumption) (by walk_at "sd") (by rfl) ?_
  | refine ixT (by assumption) (by walk_at "sd") (by rfl) ?_
  | refine ⟨_, _, rfl, lenL (by assumption), ?_⟩
  | refine ⟨_, _, rfl, lenL upd_same, ?_⟩
  | refine ⟨_, _, rfl, lenT (by assumption), ?_⟩
  | refine set1 (by assumption) ?_ | refine set2 (by assumption) ?_ | refine set3 (by assumption) ?_
  | refine set1 upd_same ?_ | refine set2 upd_same ?_ | refine set3 upd_same ?_
  | refine ixL upd_same (by decide) (by rfl) ?_
  | refine ⟨_, .inl ⟨_, SqL.of (by assumption), rfl⟩, ?_⟩
  | refine ⟨tyL (by assumption), ?_⟩ | refine ⟨tyL upd_same, ?_⟩
  | refine And.intro (by omega) ?_
  | refine ite2 (fun _ => ?_) (fun z => absurd rfl z)
  | refine ite2 (fun z => absurd z Bool.false_ne_true) (fun _ => ?_)
  | refine eqD_int ?_ | refine neD_int ?_ | refine eqD_bl ?_ | refine neD_bl ?_)
local macro_rules | `(tactic| walk_at "rd2") => `(tactic| first | walk_at "rd1" | refine And.intro rfl ?_ | refine lcYes ?_)
local macro_rules | `(tactic| walk_at "rd3") => `(tactic| first
  | walk_at "rd2"
  | with_reducible refine tNoPart_i ?_
  | refine isi_bl true (by decide +kernel) ?_ | refine isi_bl false (by decide +kernel) ?_
  | refine isi_int true (by decide +kernel) ?_ | refine isi_int false (by decide +kernel) ?_
  | refine isi_str true (by decide +kernel) ?_ | refine isi_str false (by decide +kernel) ?_
  | refine isi_non false (by decide +kernel) ?_
  | refine isi_tup (by assumption) true (by decide +kernel) ?_ | refine isi_tup (by assumption) false (by decide +kernel) ?_
  | refine isi_lst (by assumption) true (by decide +kernel) ?_ | refine isi_lst (by assumption) false (by decide +kernel) ?_)
/-! ### the hand -/
structure Hand (G H : Hp) (h : Addr) : Prop where
  g : G h = none
  ex : ∃ (c : Addr) (cells : List Int) (at_ rest seed : Int), H h = some (.lst [.ref c, .int at_, .int rest, .int seed]) ∧ G c = some (.lst (cells.map V.int)) ∧ cells.length ≤ 63 ∧ (∀ x ∈ cells, 0 ≤ x) ∧
    0 ≤ at_ ∧ at_ ≤ 63 ∧ 0 ≤ rest ∧ 0 ≤ seed ∧ seed < 2147483543
theorem Hand.ne {G H : Hp} {h : Addr} (a : Hand G H h) : H h ≠ none := by
  obtain ⟨c, cells, at_, rest, seed, e, _⟩ := a.ex
  rw [e]
  exact fun z => nomatch z
theorem Hand.up {M : List Addr} {G H G' H' : Hp} {h : Addr} (a : Hand G H h) (E : Ex M G H G' H') (m : h ∉ M) : Hand G' H' h := by
  obtain ⟨c, cells, at_, rest, seed, e, e2, r⟩ := a.ex
  exact ⟨E.out a.g e, c, cells, at_, rest, seed, E.at_ e m, E.gg _ _ e2, r⟩
theorem Hand.pure {G H G' H' : Hp} {h : Addr} (a : Hand G H h) (E : Ex [] G H G' H') : Hand G' H' h := a.up E (fun z => nomatch z)
theorem Hand.wr {G H : Hp} {h D : Addr} {o : HO} (a : Hand G H h) (n : D ≠ h) : Hand G (upd H D o) h := by
  obtain ⟨c, cells, at_, rest, seed, e, e2, r⟩ := a.ex
  exact ⟨a.g, c, cells, at_, rest, seed, by rw [upd_ne n.symm]; exact e, e2, r⟩
theorem Hand.gr {G H : Hp} {h D : Addr} {o : HO} (a : Hand G H h) (n : D ≠ h) (g : G D = none) : Hand (upd G D o) H h := by
  obtain ⟨c, cells, at_, rest, seed, e, e2, r⟩ := a.ex
  exact ⟨by rw [upd_ne n.symm]; exact a.g, c, cells, at_, rest, seed, e, by rw [upd_ne (ne_of_none e2 g)]; exact e2, r⟩
theorem Hand.dif {G H : Hp} {h D : Addr} (a : Hand G H h) (n : H D = none) : D ≠ h := fun z => a.ne (by rw [← z]; exact n)
section
variable {P : Program} {w : World} {K : PySem.W.Frag} {mg : Str → Option Value} {base : Heap}
def spStirred : Sp := fun vs H Q _ => ∃ n t : Int, vs = [.int n, .int t] ∧ 0 ≤ n ∧ n < 2147483543 ∧ 0 ≤ t ∧ t ≤ 64 ∧ ∀ r, 0 ≤ r → Q (.int r) H
theorem ok_stirred (T : Tp K mg) : FnOk P w K mg base CX0 1 T.a_stirred T.d_stirred ["_law_number", "_law_turn"] spStirred := by
  refine T.F_stirred.ok sc_stirred (fun vs H Q E h => ?_) (fun cdv A outer s H vs Q E hr h => ?_)
  · obtain ⟨n, t, rfl, _⟩ := h; rfl
  obtain ⟨n, t, rfl, n0, n1, t0, t1, q⟩ := h
  refine ⟨_, (pss_cons (ps_set (i := 2) sc_stirred.nd rfl (Or.inl rfl) (pe_op op_mod (pe_callTy call_int1 (by rfl) T.z_int (by decide +kernel) (pa_cons (pe_op (op_addAK (K := K) rfl) (pe_op (op_addAK (K := K) rfl) (pe_op op_mul (pv 0) pe_int) (pe_op op_mul (pv 1) pe_int)) pe_int) pa_nil)) pe_int))
  (pss_cons (ps_set (i := 3) sc_stirred.nd rfl (Or.inl rfl) (pe_op op_mod (pe_callTy call_int1 (by rfl) T.z_int (by decide +kernel) (pa_cons (pe_op (op_addAK (K := K) rfl) (pe_op (op_addAK (K := K) rfl) (pe_op op_mul (pv 2) (pv 2)) (pe_op op_mul (pv 1) pe_int)) (pe_op op_fdiv (pv 2) pe_int)) pa_nil)) pe_int))
  (pss_one (ps_ret (pe_op op_fdiv (pe_callTy call_int1 (by rfl) T.z_int (by decide +kernel) (pa_cons (pe_op op_mod (pe_callTy call_int1 (by rfl) T.z_int (by decide +kernel) (pa_cons (pe_op (op_addAK (K := K) rfl) (pe_op op_mul (pv 3) pe_int) (pe_op op_fdiv (pv 2) pe_int)) pa_nil)) pe_int) pa_nil)) pe_int))))), ?_⟩
  have a0 := Int.emod_nonneg (n * 48017 + t * 8821 + 70001) (by decide : (2147483423 : Int) ≠ 0)
  have a1 := Int.emod_lt_of_pos (n * 48017 + t * 8821 + 70001) (by decide : (0 : Int) < 2147483423)
  repeat walk_at "rd1"
  generalize ea : (n * 48017 + t * 8821 + 70001) % 2147483423 = a at a0 a1
  exact q _ (Int.ediv_nonneg (Int.emod_nonneg _ (by decide)) (by decide))
/- a draw -/
def spTake (K : PySem.W.Frag) : Sp := fun vs H Q _ => ∃ (h : Addr) (many : Int) (G : Hp), vs = [.ref h, .int many] ∧ Same G H ∧ Hand G H h ∧ 0 < many ∧ many < 1000000 ∧
  ∀ G' H' r, Ex [h] G H G' H' → Hand G' H' h → 0 ≤ r → r < many → Q (.int r) H'
theorem ok_take (T : Tp K mg) : FnOk P w K mg base CX0 2 T.a_take T.d_take ["_law_hand_here", "_law_many"] (spTake K) := by
  have G_stirred := ok_stirred (P := P) (w := w) (base := base) T
  refine T.F_take.ok sc_take (fun vs H Q E h => ?_) (fun cdv A outer s H vs Q E hr h => ?_)
  · obtain ⟨n, t, _, rfl, _⟩ := h; rfl
  obtain ⟨h, many, G, rfl, sm, hd, m0, m1, q⟩ := h
  have hu64 := hr.units
  refine ⟨_, (pss_cons (ps_if (PW.pt (pw_and (pt_cmpR (op_eqDK (K := K) rfl hu64) (pe_ix (ix_seqK (K := K) rfl) (pv 0) pe_int (fun _ _ => rfl)) pe_int (nomark _)) (pw_and1 (pt_cmpR op_ltA (pe_ix (ix_seqK (K := K) rfl) (pv 0) pe_int (fun _ _ => rfl)) (pe_callB (call_lenK (K := K) rfl) (by rfl) T.z_len (by decide +kernel) (pa_cons (pe_ix (ix_seqK (K := K) rfl) (pv 0) pe_int (fun _ _ => rfl)) pa_nil)) (nomark _)))))
  (pss_cons (ps_set (i := 2) sc_take.nd rfl (Or.inl rfl) (pe_ix (ix_seqK (K := K) rfl) (pe_ix (ix_seqK (K := K) rfl) (pv 0) pe_int (fun _ _ => rfl)) (pe_ix (ix_seqK (K := K) rfl) (pv 0) pe_int (fun _ _ => rfl)) (fun _ _ => rfl)))
  (pss_cons (ps_asg (pe_op (op_addAK (K := K) rfl) (pe_ix (ix_seqK (K := K) rfl) (pv 0) pe_int (fun _ _ => rfl)) pe_int) (pg_sub (pv 0) pe_int set_list))
  (pss_cons (ps_if (pt_cmpR op_ltA (pv 2) (pe_op op_pow pe_int pe_int) (nomark _))
  (pss_one (ps_ret (pe_op op_mod (pe_callTy call_int1 (by rfl) T.z_int (by decide +kernel) (pa_cons (pe_call G_stirred (hr.mono (by omega)) (by rfl) T.g_stirred T.F_stirred.kp T.b_stirred .nil pass0 (pa_cons (pe_op op_mod (pe_callTy call_int1 (by rfl) T.z_int (by decide +kernel) (pa_cons (pv 2) pa_nil)) pe_int) (pa_cons (pe_ix (ix_seqK (K := K) rfl) (pv 0) pe_int (fun _ _ => rfl)) pa_nil))) pa_nil)) (pv 1))))
  pss_nil)
  (pss_one (ps_asg (pv 2) (pg_sub (pv 0) pe_int set_list))))))
  pss_nil)
  (pss_cons (ps_if (pt_cmpR op_gtA (pe_ix (ix_seqK (K := K) rfl) (pv 0) pe_int (fun _ _ => rfl)) pe_int (nomark _))
  (pss_cons (ps_set (i := 3) sc_take.nd rfl (Or.inl rfl) (pe_ix (ix_seqK (K := K) rfl) (pv 0) pe_int (fun _ _ => rfl)))
  (pss_cons (ps_asg (pe_op op_fdiv (pe_callTy call_int1 (by rfl) T.z_int (by decide +kernel) (pa_cons (pv 3) pa_nil)) (pv 1)) (pg_sub (pv 0) pe_int set_list))
  (pss_one (ps_ret (pe_op op_mod (pe_callTy call_int1 (by rfl) T.z_int (by decide +kernel) (pa_cons (pv 3) pa_nil)) (pv 1))))))
  pss_nil)
  (pss_cons (ps_asg (pe_op op_mod (pe_callTy call_int1 (by rfl) T.z_int (by decide +kernel) (pa_cons (pe_op (op_addAK (K := K) rfl) (pe_ix (ix_seqK (K := K) rfl) (pv 0) pe_int (fun _ _ => rfl)) pe_int) pa_nil)) pe_int) (pg_sub (pv 0) pe_int set_list))
  (pss_one (ps_ret (pe_op op_mod (pe_callTy call_int1 (by rfl) T.z_int (by decide +kernel) (pa_cons (pe_call G_stirred (hr.mono (by omega)) (by rfl) T.g_stirred T.F_stirred.kp T.b_stirred .nil pass0 (pa_cons (pe_ix (ix_seqK (K := K) rfl) (pv 0) pe_int (fun _ _ => rfl)) (pa_cons (pe_ix (ix_seqK (K := K) rfl) (pv 0) pe_int (fun _ _ => rfl)) pa_nil))) pa_nil)) (pv 1))))))), ?_⟩
  obtain ⟨gn, c, cells, at_, rest, seed, eh, ec, cl, c0, a0, a1, r0, s0, s1⟩ := hd
  have nc : c ≠ h := fun z => by rw [z, gn] at ec; cases ec
  have ech : H c = some (.lst (cells.map V.int)) := sm _ _ ec
  -- the hand, changed
  have go : ∀ (H' : Hp) (at_' rest' seed' : Int), H' = upd H h (.lst [.ref c, .int at_', .int rest', .int seed']) → 0 ≤ at_' → at_' ≤ 63 → 0 ≤ rest' → 0 ≤ seed' → seed' < 2147483543 → Ex [h] G H G H' ∧ Hand G H' h := fun H' at_' rest' seed' e b0 b1 b2 b3 b4 => by
    subst e
    exact ⟨(Ex.refl sm).wr gn (.inl (by simp)), gn, c, cells, at_', rest', seed', upd_same, ec, cl, c0, b0, b1, b2, b3, b4⟩
  -- a number that is handed out as it is
  have fin : ∀ (H' : Hp) (at_' rest' seed' z : Int), H' = upd H h (.lst [.ref c, .int at_', .int rest', .int seed']) → 0 ≤ at_' → at_' ≤ 63 → 0 ≤ rest' → 0 ≤ seed' → seed' < 2147483543 → Q (.int (z % many)) H' := fun H' at_' rest' seed' z e b0 b1 b2 b3 b4 => by
    obtain ⟨E1, h1⟩ := go H' at_' rest' seed' e b0 b1 b2 b3 b4
    exact q G H' _ E1 h1 (Int.emod_nonneg _ (by omega)) (Int.emod_lt_of_pos _ m0)
  repeat walk_at "rd1"
  have tail : ∀ (H1 : Hp) (b1 b2 : Int), H1 h = some (.lst [.ref c, .int b1, .int b2, .int seed]) → True := fun _ _ _ _ => trivial
  refine ite2 (fun c1 => ?_) (fun c1 => ?_)
  · repeat walk_at "rd1"
    refine ite2 (fun c2 => ?_) (fun c2 => ?_)
    · have c2' : at_ < ((cells.map V.int).length : Int) := of_decide_eq_true c2
      rw [List.length_map] at c2'
      have hk : at_.toNat < cells.length := by omega
      have x0 := c0 _ (List.getElem_mem hk)
      repeat walk_at "rd1"
      refine ixL ech a0 (v := .int cells[at_.toNat]) (by rw [List.getElem?_map, List.getElem?_eq_getElem hk]; rfl) ?_
      repeat walk_at "rd1"
      refine ite2 (fun c3 => ?_) (fun c3 => ?_)
      · have y0 := Int.emod_nonneg cells[at_.toNat] (by decide : (2147483423 : Int) ≠ 0)
        have y1 := Int.emod_lt_of_pos cells[at_.toNat] (by decide : (0 : Int) < 2147483423)
        repeat walk_at "rd1"
        refine ⟨_, _, rfl, y0, by omega, by omega, by omega, fun r hr0 => ?_⟩
        repeat walk_at "rd1"
        exact fin _ (at_ + 1) rest seed r rfl (by omega) (by omega) r0 s0 s1
      · have c3' : ¬ cells[at_.toNat] < (10 : Int) ^ (18 : Int).toNat := fun z => c3 (decide_eq_true z)
        have d3 : ¬ cells[at_.toNat] < 1000000000000000000 := c3'
        repeat walk_at "rd1"
        refine ite2 (fun c4 => ?_) (fun c4 => ?_)
        · repeat walk_at "rd1"
          rw [upd_upd, upd_upd]
          exact fin _ (at_ + 1) (cells[at_.toNat] / many) seed _ rfl (by omega) (by omega) (Int.ediv_nonneg x0 (by omega)) s0 s1
        · exact absurd (show decide ((0 : Int) < cells[at_.toNat]) = true from decide_eq_true (by omega)) c4
    · repeat walk_at "rd1"
      refine ite2 (fun c4 => ?_) (fun c4 => ?_)
      · have c4' : 0 < rest := of_decide_eq_true c4
        repeat walk_at "rd1"
        exact fin _ at_ (rest / many) seed _ rfl a0 a1 (Int.ediv_nonneg r0 (by omega)) s0 s1
      · have y0 := Int.emod_nonneg (seed + 1) (by decide : (2147483477 : Int) ≠ 0)
        have y1 := Int.emod_lt_of_pos (seed + 1) (by decide : (0 : Int) < 2147483477)
        repeat walk_at "rd1"
        refine ⟨_, _, rfl, y0, by omega, by omega, by omega, fun r hr0 => ?_⟩
        repeat walk_at "rd1"
        exact fin _ at_ rest ((seed + 1) % 2147483477) _ rfl a0 a1 r0 y0 (by omega)
  · repeat walk_at "rd1"
    refine ite2 (fun c4 => ?_) (fun c4 => ?_)
    · have c4' : 0 < rest := of_decide_eq_true c4
      repeat walk_at "rd1"
      exact fin _ at_ (rest / many) seed _ rfl a0 a1 (Int.ediv_nonneg r0 (by omega)) s0 s1
    · have y0 := Int.emod_nonneg (seed + 1) (by decide : (2147483477 : Int) ≠ 0)
      have y1 := Int.emod_lt_of_pos (seed + 1) (by decide : (0 : Int) < 2147483477)
      repeat walk_at "rd1"
      refine ⟨_, _, rfl, y0, by omega, by omega, by omega, fun r hr0 => ?_⟩
      repeat walk_at "rd1"
      exact fin _ at_ rest ((seed + 1) % 2147483477) _ rfl a0 a1 r0 y0 (by omega)
/- the hand of a script -/
def spHand (K : PySem.W.Frag) : Sp := fun vs H Q _ => ∃ (a : Addr) (ns : List Int) (G : Hp), vs = [.ref a] ∧ SqL K H a (ns.map V.int) ∧ ns.length ≤ 63 ∧ Same G H ∧
  ∀ G' H' h, Ex [] G H G' H' → Hand G' H' h → Q (.ref h) H'
theorem ok_hand (T : Tp K mg) : FnOk P w K mg base CX0 1 T.a_hand T.d_hand ["_law_script"] (spHand K) := by
  refine T.F_hand.ok sc_hand (fun vs H Q E h => ?_) (fun cdv A outer s H vs Q E hr h => ?_)
  · obtain ⟨n, t, _, rfl, _⟩ := h; rfl
  obtain ⟨a, ns, G, rfl, hS, hl, sm, q⟩ := h
  refine ⟨_, (pss_cons (ps_set (i := 1) sc_hand.nd rfl (Or.inl rfl) (pe_op (op_addAK (K := K) rfl) (pe_op op_mul (pe_callB (call_lenK (K := K) rfl) (by rfl) T.z_len (by decide +kernel) (pa_cons (pv 0) pa_nil)) pe_int) pe_int))
  (pss_cons (ps_set (i := 2) sc_hand.nd rfl (Or.inl rfl) (pe_lst pa_nil))
  (pss_cons (ps_for PassesOwn.never rfl (pi_listK (K := K) rfl (pv 0)) (pg_name (i := 3) sc_hand.nd rfl (Or.inl rfl))
  (pss_cons (ps_set (i := 1) sc_hand.nd rfl (Or.inl rfl) (pe_op op_mod (pe_callTy call_int1 (by rfl) T.z_int (by decide +kernel) (pa_cons (pe_op (op_addAK (K := K) rfl) (pe_op op_mul (pv 1) pe_int) (pe_callTy call_int1 (by rfl) T.z_int (by decide +kernel) (pa_cons (pv 3) pa_nil))) pa_nil)) pe_int))
  (pss_one (ps_expr (pe_bmK (K := K) rfl PySem.F.plainAttrs_list PySem.F.slot_list_append PySem.F.type_list_append mt_append (pv 2) (pa_cons (pe_callB call_abs (by rfl) T.z_abs (by decide +kernel) (pa_cons (pe_callTy call_int1 (by rfl) T.z_int (by decide +kernel) (pa_cons (pv 3) pa_nil)) pa_nil)) pa_nil))))))
  (pss_one (ps_ret (pe_lst (pa_cons (pv 2) (pa_cons pe_int (pa_cons pe_int (pa_cons (pv 1) pa_nil)))))))))), ?_⟩
  repeat walk_at "rd1"
  refine ⟨_, _, rfl, .inl ⟨_, hS, rfl⟩, ?_⟩
  have hl2 : (ns.map V.int).length ≤ 63 := by rw [List.length_map]; exact hl
  repeat walk_at "rd1"
  refine ⟨line_le (Nat.zero_le _), fun p np => ?_⟩
  refine ⟨_, rfl, a, rfl, ⟨_, (show SqL K (upd H p (.lst [])) a (ns.map V.int) from Same.seq (fun b u e => by rw [upd_ne (ne_of_none e np)]; exact e) hS)⟩, ?_⟩
  refine for_list (xs := ns.map V.int) (fun i σ H' => ∃ (t : Int) (cs : List Int) (x : Option V), σ = [some (.ref a), some (.int t), some (.ref p), x] ∧ H' = upd H p (.lst (cs.map V.int)) ∧ cs.length = i ∧ (∀ x ∈ cs, 0 ≤ x) ∧ 0 ≤ t ∧ t < 2147483543)
    ⟨_, [], none, rfl, rfl, rfl, (fun x h => nomatch h), ?_, ?_⟩ (fun i σ H' hi hp => ?_) (fun i x σ H' hx hp => ?_) (fun σ H' hp => ?_)
  · omega
  · omega
  · obtain ⟨t, cs, x, _, rfl, _⟩ := hp
    exact Same.seq (fun b u e => by rw [upd_ne (ne_of_none e np)]; exact e) hS
  · obtain ⟨t, cs, x0, rfl, rfl, hc, hn, t0, t1⟩ := hp
    rw [List.getElem?_map] at hx
    obtain ⟨z, hz, rfl⟩ := Option.map_eq_some_iff.mp hx
    have hi : i < ns.length := (List.getElem?_eq_some_iff.mp hz).1
    repeat walk_at "rd1"
    refine appL upd_same (by rw [List.length_map]; exact line_lt (by omega)) ?_
    rw [upd_upd]
    refine ⟨_, cs ++ [if z < 0 then -z else z], _, rfl, ?_, by rw [List.length_append]; show cs.length + 1 = _; omega, ?_, Int.emod_nonneg _ (by decide), Int.emod_lt_of_pos _ (by decide)⟩
    · rw [List.map_append]; rfl
    · intro y hy
      rcases List.mem_append.mp hy with hy | hy
      · exact hn y hy
      · have e : y = if z < 0 then -z else z := by simpa using hy
        rw [e]
        split <;> omega
  · obtain ⟨t, cs, x0, rfl, rfl, hc, hn, t0, t1⟩ := hp
    repeat walk_at "rd1"
    refine ⟨line_le (by show 4 ≤ _; decide), fun h nh => ?_⟩
    have ep : (upd H p (.lst (cs.map V.int))) p = some (.lst (cs.map V.int)) := upd_same
    have nhp : p ≠ h := ne_of_none ep nh
    have gp : G p = none := sm.free np
    have E1 : Ex [] G H G (upd H p (.lst (cs.map V.int))) := (Ex.refl sm).new np
    have E2 : Ex [] G H (upd G p (.lst (cs.map V.int))) (upd H p (.lst (cs.map V.int))) := E1.fix gp ep np
    have gh : (upd G p (.lst (cs.map V.int))) h = none := E2.gh.free nh
    refine q _ _ h (E2.new nh) ⟨gh, p, cs, 0, 0, t, upd_same, upd_same, ?_, hn, by decide, by decide, by decide, t0, t1⟩
    rw [List.length_map] at hc
    omega
/- a list's items in a drawn order -/
def spShuffled (K : PySem.W.Frag) : Sp := fun vs H Q _ => ∃ (h : Addr) (v : V) (ds : List PyData) (G : Hp), vs = [.ref h, v] ∧ Same G H ∧ Hand G H h ∧ Dat G v (.list ds) ∧ ds.length ≤ 1000 ∧
  ∀ G' H' r es, Ex [h] G H G' H' → Hand G' H' h → es.Perm ds → Dat G' r (.list es) → Q r H'
/- a row of drawn truths -/
def spBits (K : PySem.W.Frag) : Sp := fun vs H Q _ => ∃ (h : Addr) (many : Int) (G : Hp), vs = [.ref h, .int many] ∧ Same G H ∧ Hand G H h ∧ 0 ≤ many ∧ many ≤ 1000 ∧
  ∀ (G' H' : Hp) (r : V) (bs : List Bool), Ex [h] G H G' H' → Hand G' H' h → bs.length = many.toNat → Dat G' r (.list (bs.map PyData.bool)) → Q r H'
theorem ok_bits (T : Tp K mg) : FnOk P w K mg base CX0 3 T.a_bits T.d_bits ["_law_hand_here", "_law_many"] (spBits K) := by
  have G_take := ok_take (P := P) (w := w) (base := base) T
  refine T.F_bits.ok sc_bits (fun vs H Q E h => ?_) (fun cdv A outer s H vs Q E hr h => ?_)
  · obtain ⟨_, _, _, rfl, _⟩ := h; rfl
  obtain ⟨h, many, G, rfl, sm, hd, m0, m1, q⟩ := h
  have hu64 := hr.units
  refine ⟨_, (pss_cons (ps_set (i := 2) sc_bits.nd rfl (Or.inl rfl) (pe_call G_take (hr.mono (by omega)) (by rfl) T.g_take T.F_take.kp T.b_take .nil pass0 (pa_cons (pv 0) (pa_cons pe_int pa_nil))))
  (pss_cons (ps_if (pt_cmpR (op_eqDK (K := K) rfl hu64) (pv 2) pe_int (nomark _))
  (pss_cons (ps_set (i := 3) sc_bits.nd rfl (Or.inr rfl) (pe_cmpR (op_eqDK (K := K) rfl hu64) (pe_call G_take (hr.mono (by omega)) (by rfl) T.g_take T.F_take.kp T.b_take .nil pass0 (pa_cons (pv 0) (pa_cons pe_int pa_nil))) pe_int (nomark _)))
  (pss_one (ps_ret (pe_lc (own := [("_law_k", 4)]) rfl sc_bits.nd (pi_range1 (by rfl) T.z_range (pa_cons (pv 1) pa_nil)) (blkOk_by (own := [("_law_k", 4)]) (N := ["_law_hand_here", "_law_many", "_law_turn", "_law_one", "_law_k"]) (sc := defScope s_bits) (scope := { kind := PySem.ScopeKind.function, names := [ (PySem.Str.ofString ".0", PySem.NameKind.local), (PySem.Str.ofString "_law_k", PySem.NameKind.local), (PySem.Str.ofString "_law_one", PySem.NameKind.free)], isGenerator := false, isCoroutine := false, more := [] : PySem.Scope }) (by decide +kernel)) (fun _ _ _ _ _ => (pg_name (i := 4) sc_bits.nd rfl (Or.inl rfl) (Or.inr rfl))) (fun _ _ _ _ _ => pts_nil) (fun _ _ _ _ _ => (pv 3))))))
  pss_nil)
  (pss_cons (ps_if (pt_cmpR (op_eqDK (K := K) rfl hu64) (pv 2) pe_int (nomark _))
  (pss_one (ps_ret (pe_lc (own := [("_law_k", 4)]) rfl sc_bits.nd (pi_range1 (by rfl) T.z_range (pa_cons (pv 1) pa_nil)) (blkOk_by (own := [("_law_k", 4)]) (N := ["_law_hand_here", "_law_many", "_law_turn", "_law_one", "_law_k"]) (sc := defScope s_bits) (scope := { kind := PySem.ScopeKind.function, names := [ (PySem.Str.ofString ".0", PySem.NameKind.local), (PySem.Str.ofString "_law_k", PySem.NameKind.local), (PySem.Str.ofString "_law_take", PySem.NameKind.globalImplicit), (PySem.Str.ofString "_law_hand_here", PySem.NameKind.free)], isGenerator := false, isCoroutine := false, more := [] : PySem.Scope }) (by decide +kernel)) (fun _ _ _ _ _ => (pg_name (i := 4) sc_bits.nd rfl (Or.inl rfl) (Or.inr rfl))) (fun _ _ _ _ _ => pts_nil) (fun _ _ _ _ _ => (pe_cmpR (op_eqDK (K := K) rfl hu64) (pe_call G_take (hr.mono (by omega)) (by rfl) T.g_take T.F_take.kp T.b_take .nil pass0 (pa_cons (pv 0) (pa_cons pe_int pa_nil))) pe_int (nomark _))))))
  pss_nil)
  (pss_one (ps_ret (pe_lc (own := [("_law_k", 4)]) rfl sc_bits.nd (pi_range1 (by rfl) T.z_range (pa_cons (pv 1) pa_nil)) (blkOk_by (own := [("_law_k", 4)]) (N := ["_law_hand_here", "_law_many", "_law_turn", "_law_one", "_law_k"]) (sc := defScope s_bits) (scope := { kind := PySem.ScopeKind.function, names := [ (PySem.Str.ofString ".0", PySem.NameKind.local), (PySem.Str.ofString "_law_k", PySem.NameKind.local), (PySem.Str.ofString "_law_take", PySem.NameKind.globalImplicit), (PySem.Str.ofString "_law_hand_here", PySem.NameKind.free)], isGenerator := false, isCoroutine := false, more := [] : PySem.Scope }) (by decide +kernel)) (fun _ _ _ _ _ => (pg_name (i := 4) sc_bits.nd rfl (Or.inl rfl) (Or.inr rfl))) (fun _ _ _ _ _ => pts_nil) (fun _ _ _ _ _ => (pe_cmpR (op_eqDK (K := K) rfl hu64) (pe_call G_take (hr.mono (by omega)) (by rfl) T.g_take T.F_take.kp T.b_take .nil pass0 (pa_cons (pv 0) (pa_cons pe_int pa_nil))) pe_int (nomark _))))))))), ?_⟩
  -- a row of draws
  have row : ∀ (G1 H1 : Hp) (σ : L2.St) (c : Int) (f : Int → Bool) (te : TE), True := fun _ _ _ _ _ _ => trivial
  repeat walk_at "rd1"
  refine ⟨h, _, G, rfl, sm, hd, by omega, by omega, fun G1 H1 r E1 h1 r0 r1 => ?_⟩
  repeat walk_at "rd1"
  refine ite2 (fun c1 => ?_) (fun c1 => ?_)
  · repeat walk_at "rd1"
    refine ⟨h, _, G1, rfl, E1.gh, h1, by omega, by omega, fun G2 H2 r E2 h2 r0 r1 => ?_⟩
    repeat walk_at "rd1"
    refine comp_go (M := [h]) (fun i acc G' H' => Hand G' H' h ∧ ∃ bs : List Bool, acc = bs.map PyData.bool ∧ bs.length = i)
      walk_range E2.gh (line_lt (by omega)) (fun m hm => ?_) (fun _ _ _ => trivial) ⟨h2, [], rfl, rfl⟩ (fun i acc G' H' D o hp n1 n2 => ⟨hp.1.wr (h2.dif n1), hp.2⟩) (fun i acc G' H' D o hp n1 n2 => ⟨hp.1.gr (h2.dif n1) n2, hp.2⟩) (fun i acc G3 H3 hi E3 hp C C' hC hC' => ?_) (fun G' H' r acc E3 dr hacc hp => ?_)
    · have e : m = h := by simpa using hm
      rw [e]; exact h2.ne
    · refine ⟨rfl, lcYes ?_⟩
      repeat walk_at "rd1"
      obtain ⟨k1, bs, rfl, k2⟩ := hp
      exact hC _ G3 H3 (.bool (r == 1)) (Ex.refl E3.gh) (.bl _) ⟨k1, bs ++ [r == 1], by rw [List.map_append]; rfl, by rw [List.length_append, k2]; rfl⟩
    · obtain ⟨k1, bs, rfl, k2⟩ := hp
      exact q G' H' r bs ((E1.trans E2).trans E3) k1 k2 dr
  · repeat walk_at "rd1"
    refine ite2 (fun c2 => ?_) (fun c2 => ?_)
    · repeat walk_at "rd1"
      refine comp_go (M := [h]) (fun i acc G' H' => Hand G' H' h ∧ ∃ bs : List Bool, acc = bs.map PyData.bool ∧ bs.length = i)
        walk_range E1.gh (line_lt (by omega)) (fun m hm => ?_) (fun _ _ _ => trivial) ⟨h1, [], rfl, rfl⟩ (fun i acc G' H' D o hp n1 n2 => ⟨hp.1.wr (h1.dif n1), hp.2⟩) (fun i acc G' H' D o hp n1 n2 => ⟨hp.1.gr (h1.dif n1) n2, hp.2⟩) (fun i acc G3 H3 hi E3 hp C C' hC hC' => ?_) (fun G' H' r acc E3 dr hacc hp => ?_)
      · have e : m = h := by simpa using hm
        rw [e]; exact h1.ne
      · refine ⟨rfl, lcYes ?_⟩
        obtain ⟨k1, bs, rfl, k2⟩ := hp
        repeat walk_at "rd1"
        refine ⟨h, _, G3, rfl, E3.gh, k1, by omega, by omega, fun G4 H4 z E4 h4 z0 z1 => ?_⟩
        repeat walk_at "rd1"
        exact hC _ G4 H4 (.bool _) E4 (.bl _) ⟨h4, bs ++ [_], by rw [List.map_append]; rfl, by rw [List.length_append, k2]; rfl⟩
      · obtain ⟨k1, bs, rfl, k2⟩ := hp
        exact q G' H' r bs (E1.trans E3) k1 k2 dr
    · repeat walk_at "rd1"
      refine comp_go (M := [h]) (fun i acc G' H' => Hand G' H' h ∧ ∃ bs : List Bool, acc = bs.map PyData.bool ∧ bs.length = i)
        walk_range E1.gh (line_lt (by omega)) (fun m hm => ?_) (fun _ _ _ => trivial) ⟨h1, [], rfl, rfl⟩ (fun i acc G' H' D o hp n1 n2 => ⟨hp.1.wr (h1.dif n1), hp.2⟩) (fun i acc G' H' D o hp n1 n2 => ⟨hp.1.gr (h1.dif n1) n2, hp.2⟩) (fun i acc G3 H3 hi E3 hp C C' hC hC' => ?_) (fun G' H' r acc E3 dr hacc hp => ?_)
      · have e : m = h := by simpa using hm
        rw [e]; exact h1.ne
      · refine ⟨rfl, lcYes ?_⟩
        obtain ⟨k1, bs, rfl, k2⟩ := hp
        repeat walk_at "rd1"
        refine ⟨h, _, G3, rfl, E3.gh, k1, by omega, by omega, fun G4 H4 z E4 h4 z0 z1 => ?_⟩
        repeat walk_at "rd1"
        exact hC _ G4 H4 (.bool _) E4 (.bl _) ⟨h4, bs ++ [_], by rw [List.map_append]; rfl, by rw [List.length_append, k2]; rfl⟩
      · obtain ⟨k1, bs, rfl, k2⟩ := hp
        exact q G' H' r bs (E1.trans E3) k1 k2 dr
end
/-! ### conditions -/
section
variable {P : Program} {w : World} {K : PySem.W.Frag} {mg : Str → Option Value} {base : Heap}
def spSwitch (K : PySem.W.Frag) : Sp := fun vs H Q _ => ∃ (s : Str) (G : Hp), vs = [.str s] ∧ Same G H ∧ ∀ G' H' r, Ex [] G H G' H' → Dat G' r (C.nd s (.b true) (.b false)).enc → Q r H'
/- a switch and its two sides -/
def spFormed (K : PySem.W.Frag) : Sp := fun vs H Q _ => ∃ (s : Str) (v1 v2 : V) (ns : List Str) (c d : C) (G : Hp), vs = [.str s, v1, v2] ∧ Same G H ∧ NS ns ∧ OC ns c ∧ OC ns d ∧ Dat G v1 c.enc ∧ Dat G v2 d.enc ∧
  ∀ G' H' r, Ex [] G H G' H' → Dat G' r (C.formed s c d).enc → Q r H'
theorem ok_formed (T : Tp K mg) : FnOk P w K mg base CX0 1 T.a_formed T.d_formed ["switch", "on", "off"] (spFormed K) := by
  refine T.F_formed.ok sc_formed (fun vs H Q E h => ?_) (fun cdv A outer s H vs Q E hr h => ?_)
  · obtain ⟨_, _, _, _, _, _, _, rfl, _⟩ := h; rfl
  obtain ⟨z, v1, v2, ns, c, d, G, rfl, sm, hn, hc, hd, d1, d2, q⟩ := h
  have hu64 := hr.units
  refine ⟨_, (pss_cons (ps_if (pt_cmpR (op_eqDK (K := K) rfl hu64) (pv 1) (pv 2) (nomark _))
  (pss_one (ps_ret (pv 1)))
  pss_nil)
  (pss_one (ps_ret (pe_tup (pa_cons (pv 0) (pa_cons (pv 1) (pa_cons (pv 2) pa_nil))))))), ?_⟩
  repeat walk_at "rd1"
  refine eqD_of d1 d2 sm (hc.shaped hn) (hd.shaped hn) ?_
  rw [C.eqv_iff]
  repeat walk_at "rd1"
  refine ite2 (fun e => ?_) (fun e => ?_)
  · have e : c = d := of_decide_eq_true e
    repeat walk_at "rd1"
    refine q G H _ (Ex.refl sm) ?_
    unfold C.formed
    rw [if_pos e]
    exact d1
  · have e : ¬ c = d := fun z => e (decide_eq_true z)
    repeat walk_at "rd1"
    refine ⟨line_le (by show 3 ≤ _; decide), fun p np => q _ _ _ ((Ex.refl sm).dat np) ?_⟩
    unfold C.formed
    rw [if_neg e]
    exact Dat.newT (.cons (.str z) (.cons d1 (.cons d2 .nil))) (sm.free np)
/- one side -/
def spSide (K : PySem.W.Frag) : Sp := fun vs H Q _ => ∃ (v : V) (s : Str) (o : Bool) (ns : List Str) (c : C) (G : Hp), vs = [v, .str s, .bl o] ∧ Same G H ∧ NS ns ∧ OC ns c ∧ PyData.strOk s = true ∧ Dat G v c.enc ∧ ∀ r, Dat G r (c.side s o).enc → Q r H
theorem ok_side_of (T : Tp K mg) : FnOk P w K mg base CX0 1 T.a_side_of T.d_side_of ["condition", "switch", "on"] (spSide K) := by
  refine T.F_side_of.ok sc_side_of (fun vs H Q E h => ?_) (fun cdv A outer s H vs Q E hr h => ?_)
  · obtain ⟨_, _, _, _, _, _, rfl, _⟩ := h; rfl
  obtain ⟨v, z, o, ns, c, G, rfl, sm, hn, hc, hz, d1, q⟩ := h
  have hu64 := hr.units
  refine ⟨_, (pss_cons (ps_if (PW.pt (pw_or (pt_truthK (K := K) rfl (pe_callB (call_isiK' (K := K) rfl) (by rfl) T.z_isinstance (by decide +kernel) (pa_cons (pv 0) (pa_cons (pe_bltn (v := V.ty "bool") (u := Value.type "bool") (by rfl) T.z_bool (by decide +kernel) rfl) pa_nil))) (by intro _; rfl)) (pw_or1 (pt_cmpR (op_neDK (K := K) rfl hu64) (pe_ix (ix_seqK (K := K) rfl) (pv 0) pe_int (fun _ _ => rfl)) (pv 1) (nomark _)))))
  (pss_one (ps_ret (pv 0)))
  pss_nil)
  (pss_one (ps_ret (pe_ifExp (pt_truthK (K := K) rfl (pv 2) (by intro _; rfl)) (pe_ix (ix_seqK (K := K) rfl) (pv 0) pe_int (fun _ _ => rfl)) (pe_ix (ix_seqK (K := K) rfl) (pv 0) pe_int (fun _ _ => rfl)))))), ?_⟩
  rcases d1.c_inv with ⟨b, rfl, rfl⟩ | ⟨t, x, y, a, vx, vy, rfl, rfl, ea, dx, dy⟩
  · repeat walk_at "rd1"
    refine isi_of (c := "bool") true d1 sm (show kitB "bool" "bool" = some true by decide +kernel) ?_
    repeat walk_at "rd1"
    exact q _ d1
  · have ht : PyData.strOk t = true := (hn.ok t (hc.vars t List.mem_cons_self)).1
    have eH := sm _ _ ea
    repeat walk_at "rd1"
    refine isi_of (c := "bool") false d1 sm (show kitB "tuple" "bool" = some false by decide +kernel) ?_
    repeat walk_at "rd1"
    refine neD_str ht hz ?_
    repeat walk_at "rd1"
    refine ite2 (fun e => ?_) (fun e => ?_)
    · have e : ¬ t = z := by simpa using e
      repeat walk_at "rd1"
      refine q _ ?_
      show Dat G _ (if t = z then (if o then x else y) else .nd t x y).enc
      rw [if_neg e]
      exact d1
    · have e : t = z := by simpa using e
      have r : C.side (.nd t x y) z o = if o then x else y := by
        show (if t = z then (if o then x else y) else .nd t x y) = _
        rw [if_pos e]
      rw [r] at q
      repeat walk_at "rd1"
      cases o with
      | true =>
        repeat walk_at "rd1"
        exact q _ dx
      | false =>
        repeat walk_at "rd1"
        exact q _ dy
/- not; n: the calls that are allowed -/
def spNo (K : PySem.W.Frag) (n : Nat) : Sp := fun vs H Q _ => ∃ (v : V) (ns : List Str) (c : C) (G : Hp), vs = [v] ∧ Same G H ∧ OC ns c ∧ ns.length < n ∧ Dat G v c.enc ∧ ∀ G' H' r, Ex [] G H G' H' → Dat G' r c.no.enc → Q r H'
theorem ok_no (T : Tp K mg) : ∀ n : Nat, FnOk P w K mg base CX0 n T.a_no T.d_no ["condition"] (spNo K n)
  | 0 => fn_none fun vs H Q E h => by obtain ⟨_, _, _, _, _, _, _, h, _⟩ := h; omega
  | n + 1 => by
    have G_no := ok_no T n
    refine T.F_no.ok sc_no (fun vs H Q E h => ?_) (fun cdv A outer s H vs Q E hr h => ?_)
    · obtain ⟨_, _, _, _, rfl, _⟩ := h; rfl
    obtain ⟨v, ns, c, G, rfl, sm, hc, hl, d1, q⟩ := h
    have hu64 := hr.units
    refine ⟨_, (pss_cons (ps_if (pt_truthK (K := K) rfl (pe_callB (call_isiK' (K := K) rfl) (by rfl) T.z_isinstance (by decide +kernel) (pa_cons (pv 0) (pa_cons (pe_bltn (v := V.ty "bool") (u := Value.type "bool") (by rfl) T.z_bool (by decide +kernel) rfl) pa_nil))) (by intro _; rfl))
  (pss_one (ps_ret (pe_notTK (K := K) rfl (pv 0))))
  pss_nil)
  (pss_one (ps_ret (pe_tup (pa_cons (pe_ix (ix_seqK (K := K) rfl) (pv 0) pe_int (fun _ _ => rfl)) (pa_cons (pe_call G_no (hr.mono (by omega)) (by rfl) T.g_no T.F_no.kp T.b_no .nil pass0 (pa_cons (pe_ix (ix_seqK (K := K) rfl) (pv 0) pe_int (fun _ _ => rfl)) pa_nil)) (pa_cons (pe_call G_no (hr.mono (by omega)) (by rfl) T.g_no T.F_no.kp T.b_no .nil pass0 (pa_cons (pe_ix (ix_seqK (K := K) rfl) (pv 0) pe_int (fun _ _ => rfl)) pa_nil)) pa_nil))))))), ?_⟩
    rcases d1.c_inv with ⟨b, rfl, rfl⟩ | ⟨t, x, y, a, vx, vy, rfl, rfl, ea, dx, dy⟩
    · repeat walk_at "rd1"
      refine isi_of (c := "bool") true d1 sm (show kitB "bool" "bool" = some true by decide +kernel) ?_
      repeat walk_at "rd1"
      exact q G H _ (Ex.refl sm) (.bl (!b))
    · obtain ⟨pre, ys, rfl, hx, hy, ne⟩ := hc.split
      rw [List.length_append, List.length_cons] at hl
      have eH := sm _ _ ea
      repeat walk_at "rd1"
      refine isi_of (c := "bool") false d1 sm (show kitB "tuple" "bool" = some false by decide +kernel) ?_
      repeat walk_at "rd1"
      refine ⟨vx, ys, x, G, rfl, sm, hx, by omega, dx, fun G1 H1 r1 E1 k1 => ?_⟩
      have eH1 := E1.same _ _ eH
      repeat walk_at "rd1"
      refine ⟨vy, ys, y, G1, rfl, E1.gh, hy, by omega, dy.up E1.gg, fun G2 H2 r2 E2 k2 => ?_⟩
      repeat walk_at "rd1"
      exact ⟨line_le (by show 3 ≤ _; decide), fun p np => q _ _ _ ((E1.trans E2).dat np) (Dat.newT (.cons (.str t) (.cons (k1.up E2.gg) (.cons k2 .nil))) (E2.gh.free np))⟩
/- both -/
def spBoth (K : PySem.W.Frag) (n : Nat) : Sp := fun vs H Q _ => ∃ (v1 v2 : V) (ns : List Str) (c d : C) (G : Hp), vs = [v1, v2] ∧ Same G H ∧ NS ns ∧ OC ns c ∧ OC ns d ∧ ns.length < n ∧ Dat G v1 c.enc ∧ Dat G v2 d.enc ∧
  ∀ G' H' r e, Ex [] G H G' H' → OC ns e → (∀ f, e.ev f = (c.ev f && d.ev f)) → Dat G' r e.enc → Q r H'
theorem ok_both (T : Tp K mg) : ∀ n : Nat, FnOk P w K mg base CX0 (n + 1) T.a_both T.d_both ["condition", "other"] (spBoth K n)
  | 0 => fn_none fun vs H Q E h => by obtain ⟨_, _, _, _, _, _, _, _, _, _, _, h, _⟩ := h; omega
  | n + 1 => by
    have G_both := ok_both T n
    have G_formed := ok_formed (P := P) (w := w) (base := base) T
    have G_side_of := ok_side_of (P := P) (w := w) (base := base) T
    refine T.F_both.ok sc_both (fun vs H Q E h => ?_) (fun cdv A outer s H vs Q E hr h => ?_)
    · obtain ⟨_, _, _, _, _, _, rfl, _⟩ := h; rfl
    obtain ⟨v1, v2, ns, c, d, G, rfl, sm, hn, hc, hd, hl, d1, d2, q⟩ := h
    have hu64 := hr.units
    refine ⟨_, (pss_cons (ps_if (PW.pt (pw_or (pt_cmpR op_isC (pv 0) pe_bl (nomark _)) (pw_or1 (pt_cmpR op_isC (pv 1) pe_bl (nomark _)))))
  (pss_one (ps_ret pe_bl))
  pss_nil)
  (pss_cons (ps_if (pt_cmpR op_isC (pv 0) pe_bl (nomark _))
  (pss_one (ps_ret (pv 1)))
  pss_nil)
  (pss_cons (ps_if (pt_cmpR op_isC (pv 1) pe_bl (nomark _))
  (pss_one (ps_ret (pv 0)))
  pss_nil)
  (pss_cons (ps_set (i := 2) sc_both.nd rfl (Or.inl rfl) (pe_callB (call_minS2 rfl) (by rfl) T.z_min (by decide +kernel) (pa_cons (pe_ix (ix_seqK (K := K) rfl) (pv 0) pe_int (fun _ _ => rfl)) (pa_cons (pe_ix (ix_seqK (K := K) rfl) (pv 1) pe_int (fun _ _ => rfl)) pa_nil))))
  (pss_cons (ps_set (i := 3) sc_both.nd rfl (Or.inl rfl) (pe_call G_both (hr.mono (by omega)) (by rfl) T.g_both T.F_both.kp T.b_both .nil pass0 (pa_cons (pe_call G_side_of (hr.mono (by omega)) (by rfl) T.g_side_of T.F_side_of.kp T.b_side_of .nil pass0 (pa_cons (pv 0) (pa_cons (pv 2) (pa_cons pe_bl pa_nil)))) (pa_cons (pe_call G_side_of (hr.mono (by omega)) (by rfl) T.g_side_of T.F_side_of.kp T.b_side_of .nil pass0 (pa_cons (pv 1) (pa_cons (pv 2) (pa_cons pe_bl pa_nil)))) pa_nil))))
  (pss_cons (ps_set (i := 4) sc_both.nd rfl (Or.inl rfl) (pe_call G_both (hr.mono (by omega)) (by rfl) T.g_both T.F_both.kp T.b_both .nil pass0 (pa_cons (pe_call G_side_of (hr.mono (by omega)) (by rfl) T.g_side_of T.F_side_of.kp T.b_side_of .nil pass0 (pa_cons (pv 0) (pa_cons (pv 2) (pa_cons pe_bl pa_nil)))) (pa_cons (pe_call G_side_of (hr.mono (by omega)) (by rfl) T.g_side_of T.F_side_of.kp T.b_side_of .nil pass0 (pa_cons (pv 1) (pa_cons (pv 2) (pa_cons pe_bl pa_nil)))) pa_nil))))
  (pss_one (ps_ret (pe_call G_formed (hr.mono (by omega)) (by rfl) T.g_formed T.F_formed.kp T.b_formed .nil pass0 (pa_cons (pv 2) (pa_cons (pv 3) (pa_cons (pv 4) pa_nil)))))))))))), ?_⟩
    rcases d1.c_inv with ⟨b, rfl, rfl⟩ | ⟨t, x, y, a, vx, vy, rfl, rfl, ea, dx, dy⟩
    · cases b with
      | false =>
        repeat walk_at "rd2"
        exact q G H _ (.b false) (Ex.refl sm) (.leaf _) (fun f => rfl) (.bl _)
      | true =>
        rcases d2.c_inv with ⟨b2, rfl, rfl⟩ | ⟨t2, x2, y2, a2, vx2, vy2, rfl, rfl, ea2, dx2, dy2⟩
        · cases b2 with
          | false =>
            repeat walk_at "rd2"
            exact q G H _ (.b false) (Ex.refl sm) (.leaf _) (fun f => rfl) (.bl _)
          | true =>
            repeat walk_at "rd2"
            exact q G H _ (.b true) (Ex.refl sm) (.leaf _) (fun f => rfl) (.bl _)
        · repeat walk_at "rd2"
          exact q G H _ _ (Ex.refl sm) hd (fun f => rfl) d2
    · rcases d2.c_inv with ⟨b2, rfl, rfl⟩ | ⟨t2, x2, y2, a2, vx2, vy2, rfl, rfl, ea2, dx2, dy2⟩
      · cases b2 with
        | false =>
          repeat walk_at "rd2"
          exact q G H _ (.b false) (Ex.refl sm) (.leaf _) (fun f => by simp [C.ev]) (.bl _)
        | true =>
          repeat walk_at "rd2"
          exact q G H _ _ (Ex.refl sm) hc (fun f => by simp [C.ev]) d1
      · have eH := sm _ _ ea
        have eH2 := sm _ _ ea2
        repeat walk_at "rd2"
        refine .inr ⟨t, t2, rfl, ?_⟩
        generalize em : (if t2.cps.toList < t.cps.toList then t2 else t) = m
        obtain ⟨pre, ys, rfl, oc, od⟩ := OC.mins hn hc hd m em.symm
        have ms : PyData.strOk m = true := (hn.ok m (by simp)).1
        have nys : NS ys := by
          have z : NS ((pre ++ [m]) ++ ys) := by rw [List.append_assoc]; exact hn
          exact z.suf
        rw [List.length_append, List.length_cons] at hl
        repeat walk_at "rd2"
        refine ⟨_, m, true, _, _, G, rfl, sm, hn, hc, ms, d1, fun r1 k1 => ?_⟩
        repeat walk_at "rd2"
        refine ⟨_, m, true, _, _, G, rfl, sm, hn, hd, ms, d2, fun r2 k2 => ?_⟩
        repeat walk_at "rd2"
        refine ⟨r1, r2, ys, _, _, G, rfl, sm, nys, oc true, od true, by omega, k1, k2, fun G1 H1 r3 e1 E1 o1 v1 k3 => ?_⟩
        repeat walk_at "rd2"
        refine ⟨_, m, false, _, _, G1, rfl, E1.gh, hn, hc, ms, d1.up E1.gg, fun r4 k4 => ?_⟩
        repeat walk_at "rd2"
        refine ⟨_, m, false, _, _, G1, rfl, E1.gh, hn, hd, ms, d2.up E1.gg, fun r5 k5 => ?_⟩
        repeat walk_at "rd2"
        refine ⟨r4, r5, ys, _, _, G1, rfl, E1.gh, nys, oc false, od false, by omega, k4, k5, fun G2 H2 r6 e2 E2 o2 v2 k6 => ?_⟩
        repeat walk_at "rd2"
        refine ⟨m, r3, r6, ys, e1, e2, G2, rfl, E2.gh, nys, o1, o2, k3.up E2.gg, k6, fun G3 H3 r E3 k => ?_⟩
        refine q G3 H3 r (C.formed m e1 e2) ((E1.trans E2).trans E3) ((OC.formed o1 o2).app pre) (fun f => ?_) k
        rw [C.ev_formed, v1, v2, C.ev_side f m (.nd t x y), C.ev_side f m (.nd t2 x2 y2)]
        split <;> rfl
def spTwo (K : PySem.W.Frag) (n : Nat) (g : Bool → Bool → Bool) : Sp := fun vs H Q _ => ∃ (v1 v2 : V) (ns : List Str) (c d : C) (G : Hp), vs = [v1, v2] ∧ Same G H ∧ NS ns ∧ OC ns c ∧ OC ns d ∧ ns.length < n ∧ Dat G v1 c.enc ∧ Dat G v2 d.enc ∧
  ∀ G' H' r e, Ex [] G H G' H' → OC ns e → (∀ f, e.ev f = g (c.ev f) (d.ev f)) → Dat G' r e.enc → Q r H'
theorem ok_but_not (T : Tp K mg) (n : Nat) : FnOk P w K mg base CX0 (n + 2) T.a_but_not T.d_but_not ["condition", "other"] (spTwo K n fun a b => a && !b) := by
  have G_no := ok_no (P := P) (w := w) (base := base) T n
  have G_both := ok_both (P := P) (w := w) (base := base) T n
  refine T.F_but_not.ok sc_but_not (fun vs H Q E h => ?_) (fun cdv A outer s H vs Q E hr h => ?_)
  · obtain ⟨_, _, _, _, _, _, rfl, _⟩ := h; rfl
  obtain ⟨v1, v2, ns, c, d, G, rfl, sm, hn, hc, hd, hl, d1, d2, q⟩ := h
  refine ⟨_, (pss_one (ps_ret (pe_call G_both (hr.mono (by omega)) (by rfl) T.g_both T.F_both.kp T.b_both .nil pass0 (pa_cons (pv 0) (pa_cons (pe_call G_no (hr.mono (by omega)) (by rfl) T.g_no T.F_no.kp T.b_no .nil pass0 (pa_cons (pv 1) pa_nil)) pa_nil))))), ?_⟩
  repeat walk_at "rd2"
  refine ⟨v2, ns, d, G, rfl, sm, hd, hl, d2, fun G2 H2 r2 E2 k2 => ?_⟩
  repeat walk_at "rd2"
  refine ⟨v1, r2, ns, _, _, G2, rfl, E2.gh, hn, hc, hd.no, hl, d1.up E2.gg, k2, fun G3 H3 r3 e3 E3 o3 v3 k3 => ?_⟩
  exact q G3 H3 r3 e3 (E2.trans E3) o3 (fun f => by rw [v3, C.ev_no]) k3
/- one condition where a switch is on, else the other -/
/- the condition implies the other -/
theorem ok_implies (T : Tp K mg) (n : Nat) : FnOk P w K mg base CX0 (n + 3) T.a_implies T.d_implies ["condition", "other"] (fun vs H Q _ => ∃ (v1 v2 : V) (ns : List Str) (c d : C) (G : Hp), vs = [v1, v2] ∧ Same G H ∧ NS ns ∧ OC ns c ∧ OC ns d ∧ ns.length < n ∧ Dat G v1 c.enc ∧ Dat G v2 d.enc ∧
  ∀ G' H' b, Ex [] G H G' H' → (b = true ↔ ∀ f, c.ev f = true → d.ev f = true) → Q (.bl b) H') := by
  have G_but_not := ok_but_not (P := P) (w := w) (base := base) T n
  refine T.F_implies.ok sc_implies (fun vs H Q E h => ?_) (fun cdv A outer s H vs Q E hr h => ?_)
  · obtain ⟨_, _, _, _, _, _, rfl, _⟩ := h; rfl
  obtain ⟨v1, v2, ns, c, d, G, rfl, sm, hn, hc, hd, hl, d1, d2, q⟩ := h
  refine ⟨_, (pss_one (ps_ret (pe_cmpR op_isC (pe_call G_but_not (hr.mono (by omega)) (by rfl) T.g_but_not T.F_but_not.kp T.b_but_not .nil pass0 (pa_cons (pv 0) (pa_cons (pv 1) pa_nil))) pe_bl (nomark _)))), ?_⟩
  repeat walk_at "rd2"
  refine ⟨v1, v2, ns, _, _, G, rfl, sm, hn, hc, hd, hl, d1, d2, fun G3 H3 r3 e3 E3 o3 v3 k3 => ?_⟩
  repeat walk_at "rd2"
  refine q G3 H3 _ E3 ?_
  have key : (decide (r3 = V.bl false) = true) ↔ e3 = .b false := by
    rcases k3.c_inv with ⟨b, rfl, rfl⟩ | ⟨_, _, _, _, _, _, rfl, rfl, _⟩
    · cases b <;> simp
    · simp
  rw [key]
  constructor
  · intro e f hf
    have z := v3 f
    rw [e] at z
    have z' : false = (c.ev f && !d.ev f) := z
    rw [hf] at z'
    cases e : d.ev f with
    | true => rfl
    | false => rw [e] at z'; cases z'
  · intro h
    refine OC.uniq hn.nd o3 (.leaf _) fun f => ?_
    rw [v3]
    show (c.ev f && !d.ev f) = false
    cases e : c.ev f with
    | false => rfl
    | true => rw [h f e]; rfl
end
section
variable {P : Program} {w : World} {K : PySem.W.Frag} {mg : Str → Option Value} {base : Heap}
/- a setting's number with one switch turned -/
def spTurned (K : PySem.W.Frag) : Sp := fun vs H Q _ => ∃ (k n at_ : Nat) (o : Bool), vs = [.int k, .int (2 ^ n : Nat), .int at_, .bl o] ∧ at_ < n ∧ n ≤ 20 ∧ k < 2 ^ n ∧ Q (.int (tn (2 ^ (n - 1 - at_)) k o : Nat)) H
/- the condition of a truth row -/
def spForm (K : PySem.W.Frag) (n : Nat) : Sp := fun vs H Q _ => ∃ (v1 v2 : V) (ns : List Str) (bs : List Bool) (G : Hp), vs = [v1, v2] ∧ Same G H ∧ NS ns ∧ bs.length = 2 ^ ns.length ∧ ns.length < n ∧ Dat G v1 (.list (ns.map PyData.str)) ∧ Dat G v2 (.list (bs.map PyData.bool)) ∧
  ∀ G' H' r c, Ex [] G H G' H' → Rep ns c bs → Dat G' r c.enc → Q r H'
theorem ok_form (T : Tp K mg) : ∀ n : Nat, FnOk P w K mg base CX0 n T.a_form T.d_form ["_law_names", "_law_bits_here"] (spForm K n)
  | 0 => fn_none fun vs H Q E h => by obtain ⟨_, _, _, _, _, _, _, _, _, h, _⟩ := h; omega
  | n + 1 => by
    have G_form := ok_form T n
    refine T.F_form.ok sc_form (fun vs H Q E h => ?_) (fun cdv A outer s H vs Q E hr h => ?_)
    · obtain ⟨_, _, _, _, _, rfl, _⟩ := h; rfl
    obtain ⟨v1, v2, ns, bs, G, rfl, sm, hn, hb, hl, d1, d2, q⟩ := h
    have hu64 := hr.units
    refine ⟨_, (pss_cons (ps_if (pt_cmpR (op_eqDK (K := K) rfl hu64) (pe_callB (call_lenK (K := K) rfl) (by rfl) T.z_len (by decide +kernel) (pa_cons (pv 0) pa_nil)) pe_int (nomark _))
  (pss_one (ps_ret (pe_ix (ix_seqK (K := K) rfl) (pv 1) pe_int (fun _ _ => rfl))))
  pss_nil)
  (pss_cons (ps_set (i := 2) sc_form.nd rfl (Or.inl rfl) (pe_op op_fdiv (pe_callB (call_lenK (K := K) rfl) (by rfl) T.z_len (by decide +kernel) (pa_cons (pv 1) pa_nil)) pe_int))
  (pss_cons (ps_set (i := 3) sc_form.nd rfl (Or.inl rfl) (pe_call G_form (hr.mono (by omega)) (by rfl) T.g_form T.F_form.kp T.b_form .nil pass0 (pa_cons (pe_slice (sl_anyK (K := K) rfl) (pv 0) (po_some pe_int) po_none) (pa_cons (pe_slice (sl_anyK (K := K) rfl) (pv 1) po_none (po_some (pv 2))) pa_nil))))
  (pss_cons (ps_set (i := 4) sc_form.nd rfl (Or.inl rfl) (pe_call G_form (hr.mono (by omega)) (by rfl) T.g_form T.F_form.kp T.b_form .nil pass0 (pa_cons (pe_slice (sl_anyK (K := K) rfl) (pv 0) (po_some pe_int) po_none) (pa_cons (pe_slice (sl_anyK (K := K) rfl) (pv 1) (po_some (pv 2)) po_none) pa_nil))))
  (pss_cons (ps_if (pt_cmpR (op_eqDK (K := K) rfl hu64) (pv 4) (pv 3) (nomark _))
  (pss_one (ps_ret (pv 4)))
  pss_nil)
  (pss_one (ps_ret (pe_tup (pa_cons (pe_ix (ix_seqK (K := K) rfl) (pv 0) pe_int (fun _ _ => rfl)) (pa_cons (pv 4) (pa_cons (pv 3) pa_nil))))))))))), ?_⟩
    obtain ⟨a1, x1, rfl, e1, da1⟩ := d1.list_inv
    obtain ⟨a2, x2, rfl, e2, da2⟩ := d2.list_inv
    have z1 := da1.strs_inv
    have z2 := da2.bls_inv
    subst z1 z2
    have eH1 := sm _ _ e1
    have eH2 := sm _ _ e2
    repeat walk_at "rd2"
    cases ns with
    | nil =>
      repeat walk_at "rd2"
      obtain ⟨b, rfl⟩ : ∃ b, bs = [b] := by
        match bs, hb with
        | [b], _ => exact ⟨b, rfl⟩
      repeat walk_at "rd2"
      exact q G H _ (.b b) (Ex.refl sm) ⟨.leaf b, rfl, fun k hk => by
        have e : k = 0 := by simpa using hk
        subst e
        rfl⟩ (.bl b)
    | cons x xs =>
      have nx := List.nodup_cons.mp hn.nd
      have nxs : NS xs := by
        have k : NS ([x] ++ xs) := hn
        exact k.suf
      have few := hn.few
      have pw := Nat.two_pow_pos xs.length
      have pf : 2 ^ xs.length ≤ 2 ^ 12 := Nat.pow_le_pow_right (by decide) (by rw [List.length_cons] at few; omega)
      rw [List.length_cons, Nat.pow_succ] at hb
      rw [List.length_cons] at hl
      refine ite2 (fun c => ?_) (fun c => ?_)
      · rw [beq_iff_eq, List.length_map, List.length_cons] at c
        omega
      repeat walk_at "rd2"
      have hh : ((((bs.map V.bl).length : Nat) : Int) / 2) = ((2 ^ xs.length : Nat) : Int) := by
        rw [List.length_map, hb]
        omega
      dsimp only
      rw [hh]
      repeat walk_at "rd3"
      refine slL eH1 fun p1 n1 => ?_
      have E1 : Ex [] G H (upd G p1 (.lst (cutV ((x :: xs).map V.str) (some 1) none))) (upd H p1 (.lst (cutV ((x :: xs).map V.str) (some 1) none))) := (Ex.refl sm).dat n1
      have cx : cutV ((x :: xs).map V.str) (some 1) none = xs.map V.str := cut_from _ 1
      rw [cx] at E1 ⊢
      have eH2' := E1.same _ _ eH2
      repeat walk_at "rd3"
      refine slL eH2' fun p2 n2 => ?_
      rw [cut_to, ← List.map_take]
      have E2 := E1.dat (o := .lst ((bs.take (2 ^ xs.length)).map V.bl)) n2
      have k1 : Dat (upd (upd G p1 (.lst (xs.map V.str))) p2 (.lst ((bs.take (2 ^ xs.length)).map V.bl))) (.ref p1) (.list (xs.map PyData.str)) := (Dat.newL (DatA.strs xs) (sm.free n1)).up (same_updG (E1.gh.free n2))
      have k2 : Dat (upd (upd G p1 (.lst (xs.map V.str))) p2 (.lst ((bs.take (2 ^ xs.length)).map V.bl))) (.ref p2) (.list ((bs.take (2 ^ xs.length)).map PyData.bool)) := Dat.newL (DatA.bls _) (E1.gh.free n2)
      repeat walk_at "rd3"
      refine ⟨.ref p1, .ref p2, xs, bs.take (2 ^ xs.length), _, rfl, E2.gh, nxs, by rw [List.length_take]; omega, by omega, k1, k2, fun G1 H1 r1 c1 E3 rep1 d1' => ?_⟩
      have E123 := E2.trans E3
      have eH1b := E123.same _ _ eH1
      have eH2b := E123.same _ _ eH2
      repeat walk_at "rd3"
      refine slL eH1b fun p3 n3 => ?_
      rw [cx]
      have E4 := E123.dat (o := .lst (xs.map V.str)) n3
      have eH2c := E4.same _ _ eH2
      repeat walk_at "rd3"
      refine slL eH2c fun p4 n4 => ?_
      rw [cut_from, ← List.map_drop]
      have E5 := E4.dat (o := .lst ((bs.drop (2 ^ xs.length)).map V.bl)) n4
      have k3 : Dat (upd (upd G1 p3 (.lst (xs.map V.str))) p4 (.lst ((bs.drop (2 ^ xs.length)).map V.bl))) (.ref p3) (.list (xs.map PyData.str)) := (Dat.newL (DatA.strs xs) (E123.gh.free n3)).up (same_updG (E4.gh.free n4))
      have k4 : Dat (upd (upd G1 p3 (.lst (xs.map V.str))) p4 (.lst ((bs.drop (2 ^ xs.length)).map V.bl))) (.ref p4) (.list ((bs.drop (2 ^ xs.length)).map PyData.bool)) := Dat.newL (DatA.bls _) (E4.gh.free n4)
      have d1'' := (d1'.up (same_updG (o := .lst (xs.map V.str)) (E123.gh.free n3))).up (same_updG (o := .lst ((bs.drop (2 ^ xs.length)).map V.bl)) (E4.gh.free n4))
      repeat walk_at "rd3"
      refine ⟨.ref p3, .ref p4, xs, bs.drop (2 ^ xs.length), _, rfl, E5.gh, nxs, by rw [List.length_drop]; omega, by omega, k3, k4, fun G2 H2 r2 c2 E6 rep2 d2' => ?_⟩
      have E7 := E5.trans E6
      have d1f := d1''.up E6.gg
      have eH1d := E7.same _ _ eH1
      repeat walk_at "rd3"
      refine eqD_of d2' d1f E7.gh (rep2.oc.shaped nxs) (rep1.oc.shaped nxs) ?_
      rw [C.eqv_iff]
      have rp : Rep (x :: xs) (C.formed x c2 c1) bs := by
        have k := Rep.form rep1 rep2 nx.1
        rw [List.take_append_drop] at k
        exact k
      repeat walk_at "rd3"
      refine ite2 (fun e => ?_) (fun e => ?_)
      · have e : c2 = c1 := of_decide_eq_true e
        repeat walk_at "rd3"
        refine q _ _ _ _ E7 rp ?_
        unfold C.formed
        rw [if_pos e]
        exact d2'
      · have e : ¬ c2 = c1 := fun z => e (decide_eq_true z)
        repeat walk_at "rd3"
        refine ⟨line_le (by show 3 ≤ _; decide), fun p5 n5 => ?_⟩
        refine q _ _ _ _ (E7.dat n5) rp ?_
        unfold C.formed
        rw [if_neg e]
        exact Dat.newT (.cons (.str x) (.cons d2' (.cons d1f .nil))) (E7.gh.free n5)
/- the same data, told twice; n: the calls that are allowed -/
def tame : PyData → Bool
  | .none => true
  | .bool _ => true
  | .int _ => true
  | .str s => PyData.strOk s
  | .tuple ds => decide (ds.length ≤ 1000) && tames ds
  | .list _ => false
  | .dict _ => false
where tames : List PyData → Bool
  | [] => true
  | d :: r => tame d && tames r
theorem tame_get : ∀ {ds : List PyData} {i : Nat} {d : PyData}, tame.tames ds = true → ds[i]? = some d → tame d = true
  | [], _, _, _, h => by simp at h
  | x :: r, 0, d, t, h => by
    have e : x = d := Option.some.inj h
    subst e
    exact (Bool.and_eq_true_iff.mp (show (tame x && tame.tames r) = true from t)).1
  | x :: r, i + 1, d, t, h => tame_get (ds := r) (i := i) (Bool.and_eq_true_iff.mp (show (tame x && tame.tames r) = true from t)).2 (by simpa using h)
theorem depth_get : ∀ {ds : List PyData} {i : Nat} {d : PyData}, ds[i]? = some d → d.depth ≤ PyData.depthAll ds
  | [], _, _, h => by simp at h
  | x :: r, 0, d, h => by
    have e : x = d := Option.some.inj h
    subst e
    exact Nat.le_max_left _ _
  | x :: r, i + 1, d, h => Nat.le_trans (depth_get (ds := r) (i := i) (by simpa using h)) (Nat.le_max_right _ _)
def spWhole (K : PySem.W.Frag) : Sp := fun vs H Q _ => ∃ i : Int, vs = [.int i] ∧ Q (.bl true) H
theorem ok_whole (T : Tp K mg) : FnOk P w K mg base CX0 1 T.a_whole T.d_whole ["_law_thing"] (spWhole K) := by
  refine T.F_whole.ok sc_whole (fun vs H Q E h => ?_) (fun cdv A outer s H vs Q E hr h => ?_)
  · obtain ⟨_, rfl, _⟩ := h; rfl
  obtain ⟨i, rfl, q⟩ := h
  refine ⟨_, (pss_one (ps_ret (pe_and (pe_callB (call_isiK' (K := K) rfl) (by rfl) T.z_isinstance (by decide +kernel) (pa_cons (pv 0) (pa_cons (pe_bltn (v := V.ty "int") (u := Value.type "int") (by rfl) T.z_int (by decide +kernel) rfl) pa_nil))) (pe_one (pe_notTK (K := K) rfl (pe_callB (call_isiK' (K := K) rfl) (by rfl) T.z_isinstance (by decide +kernel) (pa_cons (pv 0) (pa_cons (pe_bltn (v := V.ty "bool") (u := Value.type "bool") (by rfl) T.z_bool (by decide +kernel) rfl) pa_nil)))))))), ?_⟩
  repeat walk_at "rd3"
  exact q
def spAlike (K : PySem.W.Frag) (n : Nat) : Sp := fun vs H Q _ => ∃ (v1 v2 : V) (d : PyData) (G : Hp), vs = [v1, v2] ∧ Same G H ∧ Dat G v1 d ∧ Dat G v2 d ∧ tame d = true ∧ d.depth < n ∧ ∀ G' H', Ex [] G H G' H' → Q (.bl true) H'
theorem ok_alike (T : Tp K mg) : ∀ n : Nat, FnOk P w K mg base CX0 (n + 1) T.a_alike T.d_alike ["_law_told", "_law_due"] (spAlike K n)
  | 0 => fn_none fun vs H Q E h => by obtain ⟨_, _, _, _, _, _, _, _, _, h, _⟩ := h; omega
  | n + 1 => by
    have G_alike := ok_alike T n
    have G_whole := ok_whole (P := P) (w := w) (base := base) T
    refine T.F_alike.ok sc_alike (fun vs H Q E h => ?_) (fun cdv A outer s H vs Q E hr h => ?_)
    · obtain ⟨_, _, _, _, rfl, _⟩ := h; rfl
    obtain ⟨v1, v2, d, G, rfl, sm, d1, d2, tm, dp, q⟩ := h
    have hu64 := hr.units
    refine ⟨_, (pss_cons (ps_if (pt_truthK (K := K) rfl (pe_callB (call_isiK' (K := K) rfl) (by rfl) T.z_isinstance (by decide +kernel) (pa_cons (pv 1) (pa_cons (pe_bltn (v := V.ty "bool") (u := Value.type "bool") (by rfl) T.z_bool (by decide +kernel) rfl) pa_nil))) (by intro _; rfl))
  (pss_one (ps_ret (pe_and (pe_callB (call_isiK' (K := K) rfl) (by rfl) T.z_isinstance (by decide +kernel) (pa_cons (pv 0) (pa_cons (pe_bltn (v := V.ty "bool") (u := Value.type "bool") (by rfl) T.z_bool (by decide +kernel) rfl) pa_nil))) (pe_one (pe_cmpR (op_eqDK (K := K) rfl hu64) (pv 0) (pv 1) (nomark _))))))
  pss_nil)
  (pss_cons (ps_if (pt_truthK (K := K) rfl (pe_callB (call_isiK' (K := K) rfl) (by rfl) T.z_isinstance (by decide +kernel) (pa_cons (pv 1) (pa_cons (pe_bltn (v := V.ty "tuple") (u := Value.type "tuple") (by rfl) T.z_tuple (by decide +kernel) rfl) pa_nil))) (by intro _; rfl))
  (pss_cons (ps_if (PW.pt (pw_or (pt_not (pt_truthK (K := K) rfl (pe_callB (call_isiK' (K := K) rfl) (by rfl) T.z_isinstance (by decide +kernel) (pa_cons (pv 0) (pa_cons (pe_bltn (v := V.ty "tuple") (u := Value.type "tuple") (by rfl) T.z_tuple (by decide +kernel) rfl) pa_nil))) (by intro _; rfl))) (pw_or1 (pt_cmpR (op_neDK (K := K) rfl hu64) (pe_callB (call_lenK (K := K) rfl) (by rfl) T.z_len (by decide +kernel) (pa_cons (pv 0) pa_nil)) (pe_callB (call_lenK (K := K) rfl) (by rfl) T.z_len (by decide +kernel) (pa_cons (pv 1) pa_nil)) (nomark _)))))
  (pss_one (ps_ret pe_bl))
  pss_nil)
  (pss_one (ps_ret (pe_cmpR (op_eqDK (K := K) rfl hu64) (pe_callB (call_lenK (K := K) rfl) (by rfl) T.z_len (by decide +kernel) (pa_cons (pe_lc (own := [("_law_k", 2)]) rfl sc_alike.nd (pi_range1 (by rfl) T.z_range (pa_cons (pe_callB (call_lenK (K := K) rfl) (by rfl) T.z_len (by decide +kernel) (pa_cons (pv 1) pa_nil)) pa_nil)) (blkOk_by (own := [("_law_k", 2)]) (N := ["_law_told", "_law_due", "_law_k"]) (sc := defScope s_alike) (scope := { kind := PySem.ScopeKind.function, names := [ (PySem.Str.ofString ".0", PySem.NameKind.local), (PySem.Str.ofString "_law_k", PySem.NameKind.local), (PySem.Str.ofString "_law_alike", PySem.NameKind.globalImplicit), (PySem.Str.ofString "_law_due", PySem.NameKind.free), (PySem.Str.ofString "_law_told", PySem.NameKind.free)], isGenerator := false, isCoroutine := false, more := [] : PySem.Scope }) (by decide +kernel)) (fun _ _ _ _ _ => (pg_name (i := 2) sc_alike.nd rfl (Or.inl rfl) (Or.inr rfl))) (fun _ _ _ _ _ => (pts_one (pt_not (pt_truthK (K := K) rfl (pe_call G_alike (hr.mono (by omega)) (by rfl) T.g_alike T.F_alike.kp T.b_alike .nil pass0 (pa_cons (pe_ix (ix_seqK (K := K) rfl) (pv 0) (pv 2) (fun _ _ => rfl)) (pa_cons (pe_ix (ix_seqK (K := K) rfl) (pv 1) (pv 2) (fun _ _ => rfl)) pa_nil))) (by intro _; rfl))))) (fun _ _ _ _ _ => (pv 2))) pa_nil)) pe_int (nomark _)))))
  pss_nil)
  (pss_cons (ps_if (pt_truthK (K := K) rfl (pe_callB (call_isiK' (K := K) rfl) (by rfl) T.z_isinstance (by decide +kernel) (pa_cons (pv 1) (pa_cons (pe_bltn (v := V.ty "int") (u := Value.type "int") (by rfl) T.z_int (by decide +kernel) rfl) pa_nil))) (by intro _; rfl))
  (pss_one (ps_ret (pe_and (pe_call G_whole (hr.mono (by omega)) (by rfl) T.g_whole T.F_whole.kp T.b_whole .nil pass0 (pa_cons (pv 0) pa_nil)) (pe_one (pe_cmpR (op_eqDK (K := K) rfl hu64) (pv 0) (pv 1) (nomark _))))))
  pss_nil)
  (pss_cons (ps_if (pt_truthK (K := K) rfl (pe_callB (call_isiK' (K := K) rfl) (by rfl) T.z_isinstance (by decide +kernel) (pa_cons (pv 1) (pa_cons (pe_bltn (v := V.ty "str") (u := Value.type "str") (by rfl) T.z_str (by decide +kernel) rfl) pa_nil))) (by intro _; rfl))
  (pss_one (ps_ret (pe_and (pe_callB (call_isiK' (K := K) rfl) (by rfl) T.z_isinstance (by decide +kernel) (pa_cons (pv 0) (pa_cons (pe_bltn (v := V.ty "str") (u := Value.type "str") (by rfl) T.z_str (by decide +kernel) rfl) pa_nil))) (pe_one (pe_cmpR (op_eqDK (K := K) rfl hu64) (pv 0) (pv 1) (nomark _))))))
  pss_nil)
  (pss_one (ps_ret (pe_and (pe_cmpR op_isC (pv 1) pe_non (nomark _)) (pe_one (pe_cmpR op_isC (pv 0) pe_non (nomark _)))))))))), ?_⟩
    cases d with
    | none =>
      cases d1
      cases d2
      repeat walk_at "rd3"
      exact q G H (Ex.refl sm)
    | bool b =>
      cases d1
      cases d2
      repeat walk_at "rd3"
      rw [beq_self_eq_true]
      exact q G H (Ex.refl sm)
    | int i =>
      cases d1
      cases d2
      repeat walk_at "rd3"
      rw [beq_self_eq_true]
      exact q G H (Ex.refl sm)
    | str z =>
      cases d1
      cases d2
      repeat walk_at "rd3"
      refine eqD_str tm tm ?_
      rw [beq_self_eq_true]
      exact q G H (Ex.refl sm)
    | list ds => cases tm
    | dict ds => cases tm
    | tuple ds =>
      obtain ⟨a1, x1, rfl, e1, da1⟩ := d1.tup_inv
      obtain ⟨a2, x2, rfl, e2, da2⟩ := d2.tup_inv
      have eH1 := sm _ _ e1
      have eH2 := sm _ _ e2
      have l1 := da1.len
      have l2 := da2.len
      have tm : (decide (ds.length ≤ 1000) && tame.tames ds) = true := tm
      rw [Bool.and_eq_true, decide_eq_true_iff] at tm
      have tm1 := tm.1
      repeat walk_at "rd3"
      rw [l1, l2, beq_self_eq_true]
      repeat walk_at "rd3"
      refine comp_goD (M := []) (fun i acc G' H' => acc = []) walk_range sm (line_lt (by omega)) (fun m hm => nomatch hm) (fun _ _ _ => trivial) rfl (fun i acc G' H' D o hp n1 n2 => hp) (fun i acc G' H' D o hp n1 n2 => hp)
        (fun i acc G2 H2 hi E2 hp C C' hC hC' => ?_) (fun G' H' r acc E2 dr hacc hp => ?_)
      · subst hp
        have i2 : i < ds.length := by omega
        have eH1' := E2.same _ _ eH1
        have eH2' := E2.same _ _ eH2
        obtain ⟨u1, g1, b1⟩ := da1.get (List.getElem?_eq_getElem i2)
        obtain ⟨u2, g2, b2⟩ := da2.get (List.getElem?_eq_getElem i2)
        have tg := tame_get tm.2 (List.getElem?_eq_getElem i2)
        have dg : ds[i].depth ≤ PyData.depthAll ds := depth_get (List.getElem?_eq_getElem i2)
        have dq : PyData.depthAll ds + 1 < n + 1 := dp
        have ti : (0 + (i : Int)).toNat = i := by omega
        refine ⟨rfl, ?_⟩
        repeat walk_at "rd3"
        refine ixT eH1' (by omega) (by rw [ti]; exact g1) ?_
        repeat walk_at "rd3"
        refine ixT eH2' (by omega) (by rw [ti]; exact g2) ?_
        repeat walk_at "rd3"
        refine ⟨u1, u2, ds[i], G2, rfl, E2.gh, b1.up E2.gg, b2.up E2.gg, tg, by omega, fun G3 H3 E3 => ?_⟩
        repeat walk_at "rd3"
        exact hC' G3 H3 E3 rfl
      · subst hp
        obtain ⟨a3, x3, er, e3, da3⟩ := dr.list_inv
        cases er
        cases da3
        have eH3 := E2.gh _ _ e3
        repeat walk_at "rd3"
        exact q G' H' E2
end
section
variable {P : Program} {w : World} {K : PySem.W.Frag} {mg : Str → Option Value} {base : Heap}
/- all settings -/
def spSettings (K : PySem.W.Frag) : Sp := fun vs H Q _ => ∃ (v : V) (ns : List Str) (G : Hp), vs = [v] ∧ Same G H ∧ ns.length ≤ 12 ∧ Dat G v (strsD ns) ∧
  ∀ G' H' r, Ex [] G H G' H' → Dat G' r (.list ((SL ns).map strsD)) → Q r H'
theorem ok_settings (T : Tp K mg) : FnOk P w K mg base CX0 1 T.a_settings T.d_settings ["_law_names"] (spSettings K) := by
  refine T.F_settings.ok sc_settings (fun vs H Q E h => ?_) (fun cdv A outer s H vs Q E hr h => ?_)
  · obtain ⟨_, _, _, rfl, _⟩ := h; rfl
  obtain ⟨v, ns, G, rfl, sm, few, d1, q⟩ := h
  refine ⟨_, (pss_cons (ps_set (i := 1) sc_settings.nd rfl (Or.inl rfl) (pe_lst (pa_cons (pe_lst pa_nil) pa_nil)))
  (pss_cons (ps_for PassesOwn.never rfl (pi_reversedK (K := K) rfl (by rfl) T.z_reversed (pa_cons (pv 0) pa_nil)) (pg_name (i := 2) sc_settings.nd rfl (Or.inr rfl))
  (pss_one (ps_set (i := 1) sc_settings.nd rfl (Or.inl rfl) (pe_op (op_addAK (K := K) rfl) (pv 1) (pe_lc (own := [("_law_row", 3)]) rfl sc_settings.nd (pi_listK (K := K) rfl (pv 1)) (blkOk_by (own := [("_law_row", 3)]) (N := ["_law_names", "_law_told", "_law_switch", "_law_row"]) (sc := defScope s_settings) (scope := { kind := PySem.ScopeKind.function, names := [ (PySem.Str.ofString ".0", PySem.NameKind.local), (PySem.Str.ofString "_law_row", PySem.NameKind.local), (PySem.Str.ofString "_law_switch", PySem.NameKind.free)], isGenerator := false, isCoroutine := false, more := [] : PySem.Scope }) (by decide +kernel)) (fun _ _ _ _ _ => (pg_name (i := 3) sc_settings.nd rfl (Or.inl rfl) (Or.inr rfl))) (fun _ _ _ _ _ => pts_nil) (fun _ _ _ _ _ => (pe_op (op_addAK (K := K) rfl) (pe_lst (pa_cons (pv 2) pa_nil)) (pv 3))))))))
  (pss_one (ps_ret (pv 1))))), ?_⟩
  obtain ⟨a, x, rfl, ea, da⟩ := d1.list_inv
  have z := da.strs_inv
  subst z
  have eH := sm _ _ ea
  repeat walk_at "rd3"
  refine ⟨line_le (Nat.zero_le _), fun p1 n1 => ?_⟩
  have E1 := (Ex.refl (M := []) sm).dat (o := .lst []) n1
  repeat walk_at "rd3"
  refine ⟨line_le (by show 1 ≤ _; decide), fun p2 n2 => ?_⟩
  have E2 := E1.dat (o := .lst [.ref p1]) n2
  have k2 : Dat (upd (upd G p1 (.lst [])) p2 (.lst [.ref p1])) (.ref p2) (.list ((SL []).map strsD)) := Dat.newL (.cons (Dat.newL .nil (sm.free n1)) .nil) (E1.gh.free n2)
  have eH2 := E2.same _ _ eH
  repeat walk_at "rd3"
  refine ⟨a, ns.map V.str, rfl, SqL.of eH2, ?_⟩
  refine for_go walk_rev (fun i σ H' => ∃ (G' : Hp) (v2 : V) (y z : Option V), σ = [some (.ref a), some v2, y, z] ∧ Ex [] G H G' H' ∧ Dat G' v2 (.list ((SL (ns.drop (ns.length - i))).map strsD)))
    ⟨_, .ref p2, none, none, rfl, E2, by rw [Nat.sub_zero, List.drop_length]; exact k2⟩ (fun i σ H' hi hp => ?_) (fun i σ H' hi hp => ?_) (fun σ H' hp => ?_)
  · obtain ⟨G', v2, y, z, rfl, E3, k3⟩ := hp
    exact E3.same _ _ eH
  · obtain ⟨G', v2, y, z, rfl, E3, k3⟩ := hp
    rw [List.length_map] at hi
    have hj : ns.length - 1 - i < ns.length := by omega
    have hx : nth (ns.map V.str) ((ns.map V.str).length - 1 - i) = .str ns[ns.length - 1 - i] := by
      have k := nth_at (xs := ns.map V.str) (i := (ns.map V.str).length - 1 - i) (by rw [List.length_map]; exact hj)
      rw [List.getElem?_map, List.length_map, List.getElem?_eq_getElem hj] at k
      rw [List.length_map]
      exact (Option.some.inj k).symm
    have hdr : ns.drop (ns.length - (i + 1)) = ns[ns.length - 1 - i] :: ns.drop (ns.length - i) := by
      have k := List.drop_eq_getElem_cons hj
      rw [show ns.length - (i + 1) = ns.length - 1 - i by omega, k]
      congr 2
      omega
    rw [hx]
    generalize ns[ns.length - 1 - i] = sw at *
    generalize hxs : ns.drop (ns.length - i) = xs at *
    have lxs : xs.length ≤ 12 := by rw [← hxs, List.length_drop]; omega
    have lSL : (SL xs).length ≤ 2 ^ 12 := by rw [SL_len]; exact Nat.pow_le_pow_right (by decide) lxs
    obtain ⟨b, ws, rfl, eb, db⟩ := k3.list_inv
    have lw := db.len
    rw [List.length_map] at lw
    have eHb := E3.gh _ _ eb
    repeat walk_at "rd3"
    refine ⟨⟨_, SqL.of eHb⟩, ?_⟩
    refine comp_goD (M := []) (fun i acc G' H' => acc = ((SL xs).take i).map fun l => strsD (sw :: l)) walk_list E3.gh (line_lt (by omega)) (fun m hm => nomatch hm) (fun G4 H4 E4 => E4.same _ _ eHb) rfl (fun i acc G' H' D o hp n1 n2 => hp) (fun i acc G' H' D o hp n1 n2 => hp)
        (fun j acc G4 H4 hj2 E4 hp C C' hC hC' => ?_) (fun G4 H4 D acc E4 dr hacc hp => ?_)
    · have hj3 : j < (SL xs).length := by omega
      have hg : ((SL xs).map strsD)[j]? = some (strsD (SL xs)[j]) := by rw [List.getElem?_map, List.getElem?_eq_getElem hj3]; rfl
      obtain ⟨u, gu, du⟩ := db.get hg
      have nu : nth ws j = u := Option.some.inj ((nth_at hj2).symm.trans gu)
      rw [nu]
      obtain ⟨b2, ws2, rfl, eb2, db2⟩ := du.list_inv
      have z2 := db2.strs_inv
      subst z2
      have eHb2 := E4.gh _ _ (E4.gg _ _ eb2)
      have lfew := (SL_few (List.getElem_mem hj3)).1
      repeat walk_at "rd3"
      refine ⟨line_le (by show 1 ≤ _; decide), fun p3 n3 => ?_⟩
      have E5 := (Ex.refl (M := []) E4.gh).dat (o := .lst [.str sw]) n3
      have eHb3 := E5.same _ _ eHb2
      repeat walk_at "rd3"
      refine .inr (.inr (.inl ⟨p3, b2, _, _, rfl, rfl, upd_same, eHb3, line_le (by rw [List.length_map]; simp; omega), fun p4 n4 => ?_⟩))
      have E6 := E5.dat (o := .lst ([.str sw] ++ (SL xs)[j].map V.str)) n4
      refine hC _ _ _ (strsD (sw :: (SL xs)[j])) E6 (Dat.newL (DatA.strs (sw :: (SL xs)[j])) (E5.gh.free n4)) ?_
      rw [hp, List.take_add_one, List.getElem?_eq_getElem hj3, List.map_append]
      rfl
    · have e : acc = (SL xs).map fun l => strsD (sw :: l) := by
        rw [hp, List.take_of_length_le (by omega)]
      subst e
      obtain ⟨b3, ws3, er, eb3, db3⟩ := dr.list_inv
      cases er
      have eHb4 := E4.gh _ _ eb3
      have eHb5 := E4.same _ _ eHb
      have l3 := db3.len
      rw [List.length_map] at l3
      refine .inr (.inr (.inl ⟨b, D, _, _, rfl, rfl, eHb5, eHb4, line_le (by omega), fun p4 n4 => ?_⟩))
      have E5 := (E3.trans E4).dat (o := .lst (ws ++ ws3)) n4
      refine ⟨_, .ref p4, _, _, rfl, E5, ?_⟩
      rw [hdr]
      have dd := Dat.newL (p := p4) ((db.up E4.gg).app db3) (E4.gh.free n4)
      have e2 : (SL (sw :: xs)).map strsD = (SL xs).map strsD ++ (SL xs).map fun l => strsD (sw :: l) := by
        show (SL xs ++ (SL xs).map (sw :: ·)).map strsD = _
        rw [List.map_append, List.map_map]
        rfl
      rw [e2]
      exact dd
  · obtain ⟨G', v2, y, z, rfl, E3, k3⟩ := hp
    rw [List.length_map, Nat.sub_self, List.drop_zero] at k3
    repeat walk_at "rd3"
    exact q G' H' v2 E3 k3
/- the switches that matter -/
def spMatter (K : PySem.W.Frag) : Sp := fun vs H Q _ => ∃ (v1 v2 : V) (ns : List Str) (c : C) (row : List Bool) (G : Hp), vs = [v1, v2] ∧ Same G H ∧ NS ns ∧ Rep ns c row ∧ Dat G v1 (strsD ns) ∧ Dat G v2 (.list (row.map PyData.bool)) ∧
  ∀ G' H' r, Ex [] G H G' H' → Dat G' r (.tuple ((ns.filter fun s => decide (s ∈ c.vars)).map PyData.str)) → Q r H'
end
section
variable {P : Program} {w : World} {K : PySem.W.Frag} {mg : Str → Option Value} {base : Heap}
/- drawn names -/
def spNames (K : PySem.W.Frag) : Sp := fun vs H Q _ => ∃ (h : Addr) (n : Nat) (G : Hp), vs = [.ref h, .int n] ∧ Same G H ∧ Hand G H h ∧ n ≤ 5 ∧
  ∀ G' H' r ns, Ex [h] G H G' H' → Hand G' H' h → NS ns → ns.length = n → Str.ofString "Q9" ∉ ns → Dat G' r (strsD ns) → Q r H'
theorem ok_switch_names (T : Tp K mg) : FnOk P w K mg base CX0 3 T.a_switch_names T.d_switch_names ["_law_hand_here", "_law_many"] (spNames K) := by
  have G_take := ok_take (P := P) (w := w) (base := base) T
  refine T.F_switch_names.ok sc_switch_names (fun vs H Q E h => ?_) (fun cdv A outer s H vs Q E hr h => ?_)
  · obtain ⟨_, _, _, rfl, _⟩ := h; rfl
  obtain ⟨h, n, G, rfl, sm, hd, hn, q⟩ := h
  have hu64 := hr.units
  refine ⟨_, (pss_cons (ps_set (i := 2) sc_switch_names.nd rfl (Or.inl rfl) (pe_lst pa_nil))
  (pss_cons (ps_for PassesOwn.never rfl (pi_range1 (by rfl) T.z_range (pa_cons (pv 1) pa_nil)) (pg_name (i := 3) sc_switch_names.nd rfl (Or.inl rfl))
  (pss_cons (ps_set (i := 4) sc_switch_names.nd rfl (Or.inl rfl) (pe_call G_take (hr.mono (by omega)) (by rfl) T.g_take T.F_take.kp T.b_take .nil pass0 (pa_cons (pv 0) (pa_cons pe_int pa_nil))))
  (pss_one (ps_if (pt_cmpR (op_eqDK (K := K) rfl hu64) (pv 4) pe_int (nomark _))
  (pss_one (ps_expr (pe_bmK (K := K) rfl PySem.F.plainAttrs_list PySem.F.slot_list_append PySem.F.type_list_append mt_append (pv 2) (pa_cons (pe_op (op_addAK (K := K) rfl) pe_str (pe_callTy call_str_int (by rfl) T.z_str (by decide +kernel) (pa_cons (pe_op (op_addAK (K := K) rfl) (pv 3) pe_int) pa_nil))) pa_nil))))
  (pss_one (ps_if (pt_cmpR (op_eqDK (K := K) rfl hu64) (pv 4) pe_int (nomark _))
  (pss_one (ps_expr (pe_bmK (K := K) rfl PySem.F.plainAttrs_list PySem.F.slot_list_append PySem.F.type_list_append mt_append (pv 2) (pa_cons (pe_op (op_addAK (K := K) rfl) pe_str (pe_callTy call_str_int (by rfl) T.z_str (by decide +kernel) (pa_cons (pe_op (op_addAK (K := K) rfl) (pv 3) pe_int) pa_nil))) pa_nil))))
  (pss_cons (ps_setLc (i := 5) (own := [("_law_j", 6)]) rfl sc_switch_names.nd rfl rfl (sw_true rfl rfl rfl (by decide +kernel)) (pi_range1 (by rfl) T.z_range (pa_cons (pe_call G_take (hr.mono (by omega)) (by rfl) T.g_take T.F_take.kp T.b_take .nil pass0 (pa_cons (pv 0) (pa_cons pe_int pa_nil))) pa_nil)) (blkOk_by (own := [("_law_j", 6)]) (N := ["_law_hand_here", "_law_many", "_law_told", "_law_k", "_law_turn", "_law_middle", "_law_j"]) (sc := defScope s_switch_names) (scope := { kind := PySem.ScopeKind.function, names := [ (PySem.Str.ofString ".0", PySem.NameKind.local), (PySem.Str.ofString "_law_j", PySem.NameKind.local), (PySem.Str.ofString "_law_take", PySem.NameKind.globalImplicit), (PySem.Str.ofString "_law_hand_here", PySem.NameKind.free)], isGenerator := false, isCoroutine := false, more := [] : PySem.Scope }) (by decide +kernel)) (fun _ _ _ _ _ => (pg_name (i := 6) sc_switch_names.nd rfl (Or.inl rfl) (Or.inr rfl))) (fun _ _ _ _ _ => pts_nil) (fun _ _ _ _ _ => (pe_ix (ix_seqK (K := K) rfl) pe_str (pe_call G_take (hr.mono (by omega)) (by rfl) T.g_take T.F_take.kp T.b_take .nil pass0 (pa_cons (pv 0) (pa_cons pe_int pa_nil))) (fun _ _ => rfl))))
  (pss_one (ps_expr (pe_bmK (K := K) rfl PySem.F.plainAttrs_list PySem.F.slot_list_append PySem.F.type_list_append mt_append (pv 2) (pa_cons (pe_op (op_addAK (K := K) rfl) (pe_op (op_addAK (K := K) rfl) (pe_ix (ix_seqK (K := K) rfl) pe_str (pe_call G_take (hr.mono (by omega)) (by rfl) T.g_take T.F_take.kp T.b_take .nil pass0 (pa_cons (pv 0) (pa_cons pe_int pa_nil))) (fun _ _ => rfl)) (pe_joinK (K := K) rfl pe_str (pv 5))) (pe_callTy call_str_int (by rfl) T.z_str (by decide +kernel) (pa_cons (pv 3) pa_nil))) pa_nil)))))))))))
  (pss_one (ps_ret (pe_callB (cr_sortedSK (K := K) rfl) (by rfl) T.z_sorted (by decide +kernel) (pa_cons (pv 2) pa_nil)))))), ?_⟩
  repeat walk_at "rd3"
  refine ⟨line_le (Nat.zero_le _), fun t nt => ?_⟩
  have E1 : Ex [h] G H G (upd H t (.lst [])) := (Ex.refl sm).new nt
  have gt : G t = none := sm.free nt
  have th : t ≠ h := hd.dif nt
  have h1 : Hand G (upd H t (.lst [])) h := hd.wr th
  repeat walk_at "rd3"
  refine for_range (lo := 0) (n := ((n : Int)).toNat) (fun i σ H' => ∃ (G' : Hp) (x1 x2 x3 x4 : Option V) (ss : List Str), σ = [some (.ref h), some (.int n), some (.ref t), x1, x2, x3, x4] ∧ Ex [h] G H G' H' ∧ Hand G' H' h ∧ G' t = none ∧
      H' t = some (.lst (ss.map V.str)) ∧ ss.length = i ∧ ∀ j s, ss[j]? = some s → Tag j s)
    ⟨G, none, none, none, none, [], rfl, E1, h1, gt, upd_same, rfl, fun j s e => by simp at e⟩ (fun i σ H' hi hp => ?_) (fun σ H' hp => ?_)
  · obtain ⟨G', x1, x2, x3, x4, ss, rfl, E2, h2, g2, ht, hl, tg⟩ := hp
    have i5 : i < 5 := by omega
    have i0 : (0 + (i : Int)) = (i : Int) := by omega
    have i1 : (0 + (i : Int)) + 1 = ((i + 1 : Nat) : Int) := by omega
    have lg : ∀ k : Nat, k < 10 → ((k : Nat) : Int).natAbs.log2 < 1920 := fun k hk => by
      have e : ((k : Nat) : Int).natAbs = k := Int.natAbs_natCast k
      rw [e]
      have : k.log2 ≤ k := Nat.log2_le_self k
      omega
    have dlen : ∀ k : Nat, k < 10 → (Str.ofString (toString ((k : Nat) : Int))).length = 1 := fun k hk => by
      have e := digit k hk
      show (Str.ofString (toString ((k : Nat) : Int))).cps.size = 1
      rw [← Array.length_toList]
      exact (congrArg List.length e)
    -- a further name
    have more : ∀ (z : Str) (G5 H5 : Hp), Tag i z → Ex [h] G H G5 H5 → Hand G5 H5 h → H5 t = some (.lst (ss.map V.str)) → G5 t = none → Ex [h] G H G5 (upd H5 t (.lst (ss.map V.str ++ [.str z]))) ∧ Hand G5 (upd H5 t (.lst (ss.map V.str ++ [.str z]))) h ∧ G5 t = none ∧
        (upd H5 t (.lst (ss.map V.str ++ [.str z]))) t = some (.lst ((ss ++ [z]).map V.str)) ∧ (ss ++ [z]).length = i + 1 ∧ ∀ j s, (ss ++ [z])[j]? = some s → Tag j s := fun z G5 H5 tz E5 h5 ht5 g5 => by
      refine ⟨E5.wr g5 (.inr nt), h5.wr th, g5, ?_, ?_, fun j s e => ?_⟩
      · rw [upd_same, List.map_append]; rfl
      · rw [List.length_append, hl]; rfl
      · by_cases hj : j < ss.length
        · rw [List.getElem?_append_left hj] at e
          exact tg j s e
        · rw [List.getElem?_append_right (by omega)] at e
          have hj2 : j = ss.length := by
            have := (List.getElem?_eq_some_iff.mp e).1
            simp at this
            omega
          subst hj2
          rw [Nat.sub_self] at e
          have e : z = s := Option.some.inj e
          rw [← e, hl]
          exact tz
    repeat walk_at "rd3"
    refine ⟨h, 4, G', rfl, E2.gh, h2, by omega, by omega, fun G3 H3 r E3 h3 r0 r1 => ?_⟩
    have ht3 := E3.at_ ht (by simpa using th)
    have g3 := E3.out g2 ht
    have E23 := E2.trans E3
    have szs : (ss.map V.str).length < sizeLine := by rw [List.length_map]; exact line_lt (by omega)
    repeat walk_at "rd3"
    refine ite2 (fun c => ?_) (fun c => ?_)
    · repeat walk_at "rd3"
      rw [i1]
      refine ⟨lg (i + 1) (by omega), .inr (.inl ⟨_, _, rfl, rfl, by rw [dlen (i + 1) (by omega)]; exact line_le (by decide), ?_⟩)⟩
      repeat walk_at "rd3"
      refine appL ht3 szs ?_
      have tz : Tag i (Str.ofString "m" ++ Str.ofString (toString ((i + 1 : Nat) : Int))) := .inl (by
        rw [cl_append, digit (i + 1) (by omega)]
        show [109] ++ _ = _
        rw [show 48 + (i + 1) = 49 + i by omega]
        rfl)
      obtain ⟨b1, b2, b3, b4, b5, b6⟩ := more _ _ _ tz E23 h3 ht3 g3
      exact ⟨G3, _, _, _, _, _, rfl, b1, b2, b3, b4, b5, b6⟩
    · repeat walk_at "rd3"
      refine ite2 (fun c2 => ?_) (fun c2 => ?_)
      · repeat walk_at "rd3"
        rw [i1]
        refine ⟨lg (i + 1) (by omega), .inr (.inl ⟨_, _, rfl, rfl, by rw [dlen (i + 1) (by omega)]; exact line_le (by decide), ?_⟩)⟩
        repeat walk_at "rd3"
        refine appL ht3 szs ?_
        have tz : Tag i (Str.ofString "e" ++ Str.ofString (toString ((i + 1 : Nat) : Int))) := .inr (.inl (by
          rw [cl_append, digit (i + 1) (by omega)]
          show [101] ++ _ = _
          rw [show 48 + (i + 1) = 49 + i by omega]
          rfl))
        obtain ⟨b1, b2, b3, b4, b5, b6⟩ := more _ _ _ tz E23 h3 ht3 g3
        exact ⟨G3, _, _, _, _, _, rfl, b1, b2, b3, b4, b5, b6⟩
      · repeat walk_at "rd3"
        refine ⟨h, 7, G3, rfl, E3.gh, h3, by omega, by omega, fun G4 H4 m E4 h4 m0 m1 => ?_⟩
        repeat walk_at "rd3"
        refine comp_goD (M := [h]) (fun k acc G' H' => Hand G' H' h ∧ ∃ ms : List Nat, acc = ms.map (fun x => PyData.str ⟨#[x]⟩) ∧ ms.length = k ∧ ∀ x ∈ ms, 97 ≤ x ∧ x ≤ 122)
          walk_range E4.gh (line_lt (by omega)) (fun m hm => ?_) (fun _ _ _ => trivial) ⟨h4, [], rfl, rfl, fun x hx => nomatch hx⟩ (fun i acc G' H' D o hp n1 n2 => ⟨hp.1.wr (h4.dif n1), hp.2⟩) (fun i acc G' H' D o hp n1 n2 => ⟨hp.1.gr (h4.dif n1) n2, hp.2⟩) (fun k acc G5 H5 hk E5 hp C C' hC hC' => ?_) (fun G5 H5 D acc E5 dr hacc hp => ?_)
        · have e : m = h := by simpa using hm
          rw [e]; exact h4.ne
        · obtain ⟨k1, ms, rfl, k2, k3⟩ := hp
          refine ⟨rfl, lcYes ?_⟩
          repeat walk_at "rd3"
          refine ⟨h, 26, G5, rfl, E5.gh, k1, by omega, by omega, fun G6 H6 r6 E6 h6 r60 r61 => ?_⟩
          refine ixS (line_le (by decide +kernel)) r60 (low_at r6.toNat (by omega)) ?_
          refine hC _ G6 H6 (.str ⟨#[97 + r6.toNat]⟩) E6 (.str _) ⟨h6, ms ++ [97 + r6.toNat], by rw [List.map_append]; rfl, by rw [List.length_append, k2]; rfl, fun x hx => ?_⟩
          rcases List.mem_append.mp hx with hx | hx
          · exact k3 x hx
          · have e : x = 97 + r6.toNat := by simpa using hx
            omega
        · obtain ⟨k1, ms, rfl, k2, k3⟩ := hp
          obtain ⟨b, ws, er, eb, db⟩ := dr.list_inv
          cases er
          have zz : ws = (ms.map fun x => (⟨#[x]⟩ : Str)).map V.str := by
            have k : DatA G5 ws ((ms.map fun x => (⟨#[x]⟩ : Str)).map PyData.str) := by rw [List.map_map]; exact db
            exact k.strs_inv
          subst zz
          have E25 := (E23.trans E4).trans E5
          have ht5 := E5.at_ (E4.at_ ht3 (by simpa using th)) (by simpa using th)
          have g5 := E5.out (E4.out g3 ht3) (E4.at_ ht3 (by simpa using th))
          repeat walk_at "rd3"
          refine ⟨h, 26, G5, rfl, E5.gh, k1, by omega, by omega, fun G6 H6 r6 E6 h6 r60 r61 => ?_⟩
          have ht6 := E6.at_ ht5 (by simpa using th)
          have g6 := E6.out g5 ht5
          have eHd := E6.gh _ _ (E6.gg _ _ eb)
          repeat walk_at "rd3"
          refine ixS (line_le (by decide +kernel)) r60 (up_at r6.toNat (by omega)) ?_
          repeat walk_at "rd3"
          refine ⟨⟨_, rfl⟩, ?_⟩
          repeat walk_at "rd3"
          refine ⟨_, D, ms.map fun x => (⟨#[x]⟩ : Str), rfl, rfl, .inl (SqL.of eHd), ?_, ?_⟩
          · rw [sum_one, show (Str.ofString "").length = 0 from rfl]
            omega
          have je : cl (Txt.join (Str.ofString "") (ms.map fun x => (⟨#[x]⟩ : Str))) = ms := by
            rw [cl_join rfl, flat_one _ ms (by rw [List.map_map]; rfl)]
          have jl : (Txt.join (Str.ofString "") (ms.map fun x => (⟨#[x]⟩ : Str))).length = ms.length := by
            show (Txt.join (Str.ofString "") (ms.map fun x => (⟨#[x]⟩ : Str))).cps.size = _
            rw [← Array.length_toList]
            exact congrArg List.length je
          repeat walk_at "rd3"
          refine .inr (.inl ⟨_, _, rfl, rfl, by rw [jl]; exact line_le (by show 1 + ms.length ≤ _; omega), ?_⟩)
          repeat walk_at "rd3"
          rw [i0]
          have l1 : ((⟨#[65 + r6.toNat]⟩ : Str) ++ Txt.join (Str.ofString "") (ms.map fun x => (⟨#[x]⟩ : Str))).length = 1 + ms.length := by
            show (_ ++ _ : Array Nat).size = _
            rw [Array.size_append]
            exact congrArg (1 + ·) jl
          refine ⟨lg i (by omega), .inr (.inl ⟨_, _, rfl, rfl, by rw [l1, dlen i (by omega)]; exact line_le (by omega), ?_⟩)⟩
          repeat walk_at "rd3"
          refine appL ht6 szs ?_
          have tz : Tag i ((⟨#[65 + r6.toNat]⟩ : Str) ++ Txt.join (Str.ofString "") (ms.map fun x => (⟨#[x]⟩ : Str)) ++ Str.ofString (toString ((i : Nat) : Int))) := .inr (.inr ⟨65 + r6.toNat, ms, by
            rw [cl_append, cl_append, digit i (by omega), je]
            show [65 + r6.toNat] ++ ms ++ _ = _
            rfl, by omega, by omega, k3, by omega⟩)
          obtain ⟨b1, b2, b3, b4, b5, b6⟩ := more _ _ _ tz (E25.trans E6) h6 ht6 g6
          exact ⟨G6, _, _, _, _, _, rfl, b1, b2, b3, b4, b5, b6⟩
  · obtain ⟨G', x1, x2, x3, x4, ss, rfl, E2, h2, g2, ht, hl, tg⟩ := hp
    have hl : ss.length = n := by omega
    have nds : ss.Nodup := tag_nodup 0 tg
    repeat walk_at "rd3"
    refine ⟨t, ss, rfl, SqL.of ht, by omega, fun ys p pm srt np => ?_⟩
    have hys := sorted_strict srt pm nds
    have mem : ∀ s ∈ ys, ∃ j, j < 5 ∧ Tag j s := fun s hs => by
      obtain ⟨j, hj⟩ := List.getElem?_of_mem (pm.mem_iff.mp hs)
      exact ⟨j, by have := (List.getElem?_eq_some_iff.mp hj).1; omega, tg j s hj⟩
    refine q _ _ _ ys (E2.dat np) (h2.pure ((Ex.refl (M := []) E2.gh).dat np)) ⟨hys, fun s hs => ?_, by rw [pm.length_eq]; omega⟩ (by rw [pm.length_eq]; exact hl) (fun m => ?_) (Dat.newL (DatA.strs ys) (E2.gh.free np))
    · obtain ⟨j, hj, tj⟩ := mem s hs
      exact tj.ok (by omega)
    · obtain ⟨j, hj, tj⟩ := mem _ m
      exact Tag.q9 (by omega) tj
end
/-! ### causes -/
section
variable {P : Program} {w : World} {K : PySem.W.Frag} {mg : Str → Option Value} {base : Heap}
def spPart (K : PySem.W.Frag) : Sp := fun vs H Q _ => ∃ (v : V) (l : Pt) (ns : List Str) (G : Hp), vs = [v] ∧ Same G H ∧ NS ns ∧ Sub ns l ∧ Dat G v (prD l) ∧ ∀ G' H' r, Ex [] G H G' H' → Dat G' r (pc l).enc → Q r H'
theorem ok_part_condition (T : Tp K mg) : FnOk P w K mg base CX0 2 T.a_part_condition T.d_part_condition ["part"] (spPart K) := by
  have G_formed := ok_formed (P := P) (w := w) (base := base) T
  refine T.F_part_condition.ok sc_part_condition (fun vs H Q E h => ?_) (fun cdv A outer s H vs Q E hr h => ?_)
  · obtain ⟨_, _, _, _, rfl, _⟩ := h; rfl
  obtain ⟨v, l, ns, G, rfl, sm, hn, hs, d1, q⟩ := h
  have hu64 := hr.units
  refine ⟨_, (pss_cons (ps_set (i := 1) sc_part_condition.nd rfl (Or.inl rfl) pe_bl)
  (pss_cons (ps_for PassesOwn.never rfl (pi_revAK (K := K) rfl (by rfl) T.z_reversed (pv 0)) (pg_tupK (K := K) rfl rfl (pgs_cons (pg_name (i := 2) sc_part_condition.nd rfl (Or.inl rfl)) (pgs_cons (pg_name (i := 3) sc_part_condition.nd rfl (Or.inl rfl)) pgs_nil)))
  (pss_one (ps_if (pt_truthK (K := K) rfl (pv 3) (by intro _; rfl))
  (pss_one (ps_set (i := 1) sc_part_condition.nd rfl (Or.inl rfl) (pe_call G_formed (hr.mono (by omega)) (by rfl) T.g_formed T.F_formed.kp T.b_formed .nil pass0 (pa_cons (pv 2) (pa_cons (pv 1) (pa_cons pe_bl pa_nil))))))
  (pss_one (ps_set (i := 1) sc_part_condition.nd rfl (Or.inl rfl) (pe_call G_formed (hr.mono (by omega)) (by rfl) T.g_formed T.F_formed.kp T.b_formed .nil pass0 (pa_cons (pv 2) (pa_cons pe_bl (pa_cons (pv 1) pa_nil)))))))))
  (pss_one (ps_ret (pv 1))))), ?_⟩
  obtain ⟨a, x, rfl, ea, da⟩ := d1.tup_inv
  have eH := sm _ _ ea
  have lx := da.len
  rw [List.length_map] at lx
  repeat walk_at "rd3"
  refine ⟨a, x, rfl, .inr ⟨SqT.of eH, ?_⟩⟩
  refine for_go walk_revT (fun i σ H' => ∃ (G' : Hp) (v2 : V) (y z : Option V), σ = [some (.ref a), some v2, y, z] ∧ Ex [] G H G' H' ∧ Dat G' v2 (pc (l.drop (l.length - i))).enc)
    ⟨G, .bl true, none, none, rfl, Ex.refl sm, by rw [Nat.sub_zero, List.drop_length]; exact .bl true⟩ (fun i σ H' hi hp => ?_) (fun i σ H' hi hp => ?_) (fun σ H' hp => ?_)
  · obtain ⟨G', v2, y, z, rfl, E3, k3⟩ := hp
    exact E3.same _ _ eH
  · obtain ⟨G', v2, y, z, rfl, E3, k3⟩ := hp
    have hj : l.length - 1 - i < l.length := by omega
    have hg : (l.map fun r => PyData.tuple [.str r.1, .bool r.2])[l.length - 1 - i]? = some (PyData.tuple [.str l[l.length - 1 - i].1, .bool l[l.length - 1 - i].2]) := by rw [List.getElem?_map, List.getElem?_eq_getElem hj]; rfl
    obtain ⟨u, gu, du⟩ := da.get hg
    have nu : nth x (x.length - 1 - i) = u := by
      rw [lx]
      exact Option.some.inj ((nth_at (by omega)).symm.trans gu)
    rw [nu]
    have hdr : l.drop (l.length - (i + 1)) = l[l.length - 1 - i] :: l.drop (l.length - i) := by
      have k := List.drop_eq_getElem_cons hj
      rw [show l.length - (i + 1) = l.length - 1 - i by omega, k]
      congr 2
      omega
    have hsub : Sub ns (l.drop (l.length - i)) := (List.Sublist.map _ (List.drop_sublist _ _)).trans hs
    generalize l[l.length - 1 - i] = r at *
    obtain ⟨sw, b⟩ := r
    obtain ⟨p, xs, rfl, ep, dp⟩ := du.tup_inv
    cases dp with
    | cons d1 dp =>
    cases dp with
    | cons d2 dp =>
    cases dp
    cases d1
    cases d2
    have eHp := E3.gh _ _ (E3.gg _ _ ep)
    repeat walk_at "rd3"
    refine gTup_i eHp rfl (gCons_i (gCons_i (gNil_i ?_)))
    cases b with
    | false =>
      repeat walk_at "rd3"
      refine ⟨sw, _, _, ns, .b false, pc (l.drop (l.length - i)), G', rfl, E3.gh, hn, .leaf _, pc_oc hsub, .bl _, k3, fun G4 H4 r4 E4 k4 => ?_⟩
      repeat walk_at "rd3"
      refine ⟨G4, r4, _, _, rfl, E3.trans E4, ?_⟩
      rw [hdr]
      exact k4
    | true =>
      repeat walk_at "rd3"
      refine ⟨sw, _, _, ns, pc (l.drop (l.length - i)), .b false, G', rfl, E3.gh, hn, pc_oc hsub, .leaf _, k3, .bl _, fun G4 H4 r4 E4 k4 => ?_⟩
      repeat walk_at "rd3"
      refine ⟨G4, r4, _, _, rfl, E3.trans E4, ?_⟩
      rw [hdr]
      exact k4
  · obtain ⟨G', v2, y, z, rfl, E3, k3⟩ := hp
    rw [lx, Nat.sub_self, List.drop_zero] at k3
    repeat walk_at "rd3"
    exact q G' H' v2 E3 k3
/- the causes in some order: a new list -/
def spCauses (K : PySem.W.Frag) (n : Nat) : Sp := fun vs H Q _ => ∃ (v : V) (ns : List Str) (c : C) (G : Hp), vs = [v] ∧ Same G H ∧ NS ns ∧ OC ns c ∧ ns.length < n ∧ n ≤ 9 ∧ Dat G v c.enc ∧
  ∀ (G' H' : Hp) (D : Addr) (us : List V) (ls : List Pt), Ex [] G H G' H' → G' D = none → H D = none → H' D = some (.lst us) → DatA G' us (ls.map prD) → CL ns c ls → Q (.ref D) H'
theorem ok_cause_list (T : Tp K mg) : ∀ n : Nat, FnOk P w K mg base CX0 (n + 12) T.a_cause_list T.d_cause_list ["condition"] (spCauses K n)
  | 0 => fn_none fun vs H Q E h => by obtain ⟨_, _, _, _, _, _, _, _, h, _⟩ := h; omega
  | n + 1 => by
    have G_cause_list := ok_cause_list T n
    have G_both := ok_both (P := P) (w := w) (base := base) T 10
    have G_part_condition := ok_part_condition (P := P) (w := w) (base := base) T
    have G_implies := ok_implies (P := P) (w := w) (base := base) T 9
    refine T.F_cause_list.ok sc_cause_list (fun vs H Q E h => ?_) (fun cdv A outer s H vs Q E hr h => ?_)
    · obtain ⟨_, _, _, _, rfl, _⟩ := h; rfl
    obtain ⟨v, ns, c, G, rfl, sm, hn, hc, hl, hl9, d1, q⟩ := h
    have hu64 := hr.units
    refine ⟨_, (pss_cons (ps_if (pt_cmpR op_isC (pv 0) pe_bl (nomark _))
  (pss_one (ps_ret (pe_lst pa_nil)))
  pss_nil)
  (pss_cons (ps_if (pt_cmpR op_isC (pv 0) pe_bl (nomark _))
  (pss_one (ps_ret (pe_lst (pa_cons (pe_tup pa_nil) pa_nil))))
  pss_nil)
  (pss_cons (ps_asg (pv 0) (pg_tupK (K := K) rfl rfl (pgs_cons (pg_name (i := 1) sc_cause_list.nd rfl (Or.inl rfl)) (pgs_cons (pg_name (i := 2) sc_cause_list.nd rfl (Or.inl rfl)) (pgs_cons (pg_name (i := 3) sc_cause_list.nd rfl (Or.inl rfl)) pgs_nil)))))
  (pss_cons (ps_set (i := 4) sc_cause_list.nd rfl (Or.inl rfl) (pe_call G_cause_list (hr.mono (by omega)) (by rfl) T.g_cause_list T.F_cause_list.kp T.b_cause_list .nil pass0 (pa_cons (pe_call G_both (hr.mono (by omega)) (by rfl) T.g_both T.F_both.kp T.b_both .nil pass0 (pa_cons (pv 2) (pa_cons (pv 3) pa_nil))) pa_nil)))
  (pss_cons (ps_for PassesOwn.never rfl (pi_tupK (K := K) rfl (pe_tup (pa_cons (pe_tup (pa_cons pe_bl (pa_cons (pv 3) (pa_cons (pv 2) pa_nil)))) (pa_cons (pe_tup (pa_cons pe_bl (pa_cons (pv 2) (pa_cons (pv 3) pa_nil)))) pa_nil)))) (pg_tupK (K := K) rfl rfl (pgs_cons (pg_name (i := 5) sc_cause_list.nd rfl (Or.inl rfl)) (pgs_cons (pg_name (i := 6) sc_cause_list.nd rfl (Or.inl rfl)) (pgs_cons (pg_name (i := 7) sc_cause_list.nd rfl (Or.inl rfl)) pgs_nil))))
  (pss_one (ps_for PassesOwn.never rfl (pi_listK (K := K) rfl (pe_call G_cause_list (hr.mono (by omega)) (by rfl) T.g_cause_list T.F_cause_list.kp T.b_cause_list .nil pass0 (pa_cons (pv 6) pa_nil))) (pg_name (i := 8) sc_cause_list.nd rfl (Or.inl rfl))
  (pss_one (ps_if (pt_not (pt_truthK (K := K) rfl (pe_call G_implies (hr.mono (by omega)) (by rfl) T.g_implies T.F_implies.kp T.b_implies .nil pass0 (pa_cons (pe_call G_part_condition (hr.mono (by omega)) (by rfl) T.g_part_condition T.F_part_condition.kp T.b_part_condition .nil pass0 (pa_cons (pv 8) pa_nil)) (pa_cons (pv 7) pa_nil))) (by intro _; rfl)))
  (pss_one (ps_expr (pe_bmK (K := K) rfl PySem.F.plainAttrs_list PySem.F.slot_list_append PySem.F.type_list_append mt_append (pv 4) (pa_cons (pe_op (op_addAK (K := K) rfl) (pe_tup (pa_cons (pe_tup (pa_cons (pv 1) (pa_cons (pv 5) pa_nil))) pa_nil)) (pv 8)) pa_nil))))
  pss_nil)))))
  (pss_one (ps_ret (pv 4)))))))), ?_⟩
    rcases d1.c_inv with ⟨b, rfl, rfl⟩ | ⟨s, x, y, a, vx, vy, rfl, rfl, ea, dx, dy⟩
    · cases b with
      | false =>
        repeat walk_at "rd3"
        refine ⟨line_le (Nat.zero_le _), fun p np => ?_⟩
        exact q G _ p [] [] ((Ex.refl sm).new np) (sm.free np) np upd_same .nil (cl_no hn.nd)
      | true =>
        repeat walk_at "rd3"
        refine ⟨line_le (Nat.zero_le _), fun p1 n1 => ?_⟩
        have E1 := (Ex.refl (M := []) sm).dat (o := .tup []) n1
        repeat walk_at "rd3"
        refine ⟨line_le (by show 1 ≤ _; decide), fun p2 n2 => ?_⟩
        exact q _ _ p2 [.ref p1] [[]] (E1.new n2) (E1.gh.free n2) (E1.free n2) upd_same (.cons (Dat.newT .nil (sm.free n1)) .nil) (cl_yes ns)
    · obtain ⟨pre, ys, rfl, ox, oy, ne⟩ := hc.split
      have hsy : NS (s :: ys) := hn.suf
      have hy : NS ys := by
        have k : NS ([s] ++ ys) := hsy
        exact k.suf
      have ocn : OC (s :: ys) (.nd s x y) := .node ox oy ne
      rw [List.length_append, List.length_cons] at hl
      have eHa := sm _ _ ea
      repeat walk_at "rd3"
      refine gTup_i eHa rfl (gCons_i (gCons_i (gCons_i (gNil_i ?_))))
      repeat walk_at "rd3"
      refine ⟨vx, vy, ys, x, y, G, rfl, sm, hy, ox, oy, by omega, dx, dy, fun G1 H1 r1 e1 E1 o1 v1 k1 => ?_⟩
      repeat walk_at "rd3"
      refine ⟨r1, ys, e1, G1, rfl, E1.gh, hy, o1, by omega, by omega, k1, fun G2 H2 D us0 ls0 E2 g2 nD h2 da2 c2 => ?_⟩
      have E12 := E1.trans E2
      have nD0 := E1.free nD
      repeat walk_at "rd3"
      refine ⟨line_le (by show 3 ≤ _; decide), fun p3 n3 => ?_⟩
      have F3 := (Ex.refl (M := []) E2.gh).dat (o := .tup [.bl false, vy, vx]) n3
      repeat walk_at "rd3"
      refine ⟨line_le (by show 3 ≤ _; decide), fun p4 n4 => ?_⟩
      have F4 := F3.dat (o := .tup [.bl true, vx, vy]) n4
      repeat walk_at "rd3"
      refine ⟨line_le (by show 2 ≤ _; decide), fun p5 n5 => ?_⟩
      have F5 := F4.dat (o := .tup [.ref p3, .ref p4]) n5
      have hD5 := F5.at_ h2 (fun z => nomatch z)
      have gD5 := F5.out g2 h2
      have F45 : Ex [] _ (upd H2 p3 (.tup [.bl false, vy, vx])) _ _ := ((Ex.refl (M := []) F3.gh).dat (o := .tup [.bl true, vx, vy]) n4).dat (o := .tup [.ref p3, .ref p4]) n5
      have m3 := F45.same _ _ (upd_same (o := .tup [.bl false, vy, vx]))
      have F55 : Ex [] _ (upd (upd H2 p3 (.tup [.bl false, vy, vx])) p4 (.tup [.bl true, vx, vy])) _ _ := (Ex.refl (M := []) F4.gh).dat (o := .tup [.ref p3, .ref p4]) n5
      have m4 := F55.same _ _ (upd_same (o := .tup [.bl true, vx, vy]))
      have d3 : p3 ≠ D := (ne_of_none h2 n3).symm
      have d4 : p4 ≠ D := (ne_of_none (F3.at_ h2 (fun z => nomatch z)) n4).symm
      have d5 : p5 ≠ D := (ne_of_none (F4.at_ h2 (fun z => nomatch z)) n5).symm
      generalize hG5 : upd (upd (upd G2 p3 (.tup [.bl false, vy, vx])) p4 (.tup [.bl true, vx, vy])) p5 (.tup [.ref p3, .ref p4]) = G5 at *
      repeat walk_at "rd3"
      refine ⟨⟨_, SqT.of upd_same⟩, ?_⟩
      have m5 := upd_same (H := upd (upd H2 p3 (.tup [.bl false, vy, vx])) p4 (.tup [.bl true, vx, vy])) (a := p5) (o := .tup [.ref p3, .ref p4])
      generalize hH5 : upd (upd (upd H2 p3 (.tup [.bl false, vy, vx])) p4 (.tup [.bl true, vx, vy])) p5 (.tup [.ref p3, .ref p4]) = H5 at *
      have E5 := E12.trans F5
      refine for_go (walk_tup (xs := [.ref p3, .ref p4])) (fun i σ H' => ∃ (G' : Hp) (us : List V) (ls : List Pt) (w5 w6 w7 w8 : Option V), σ = [some (.ref a), some (.str s), some vx, some vy, some (.ref D), w5, w6, w7, w8] ∧ Ex [D] G5 H5 G' H' ∧ G' D = none ∧ H' D = some (.lst us) ∧ DatA G' us (ls.map prD) ∧ PL ys s x y i ls)
        ⟨G5, us0, ls0, none, none, none, none, rfl, Ex.refl F5.gh, gD5, hD5, da2.up F5.gg, e1, v1, c2⟩ (fun i σ H' hi hp => ?_) (fun i σ H' hi hp => ?_) (fun σ H' hp => ?_)
      · obtain ⟨G', us, ls, w5, w6, w7, w8, rfl, E6, g6, h6, da6, pl⟩ := hp
        exact E6.at_ m5 (by simpa using d5)
      · obtain ⟨G', us, ls, w5, w6, w7, w8, rfl, E6, g6, h6, da6, pl⟩ := hp
        have key : ∃ (p : Addr) (vm vo : V) (cm co : C), nth [V.ref p3, V.ref p4] i = .ref p ∧ H5 p = some (.tup [.bl (decide (i = 1)), vm, vo]) ∧ p ≠ D ∧ Dat G vm cm.enc ∧ Dat G vo co.enc ∧ cm = (if i = 1 then x else y) ∧ co = (if i = 1 then y else x) ∧ OC ys cm ∧ OC ys co := by
          match i, hi with
          | 0, _ => exact ⟨p3, vy, vx, y, x, rfl, m3, d3, dy, dx, rfl, rfl, oy, ox⟩
          | 1, _ => exact ⟨p4, vx, vy, x, y, rfl, m4, d4, dx, dy, rfl, rfl, ox, oy⟩
        obtain ⟨p, vm, vo, cm, co, en, hp5, pD, dm, dO, ecm, eco, ocm, oco⟩ := key
        rw [en]
        refine gTup_i (E6.at_ hp5 (by simpa using pD)) rfl (gCons_i (gCons_i (gCons_i (gNil_i ?_))))
        have dm6 := (dm.up E5.gg).up E6.gg
        have dO6 := (dO.up E5.gg).up E6.gg
        repeat walk_at "rd3"
        refine ⟨vm, ys, cm, G', rfl, E6.gh, hy, ocm, by omega, by omega, dm6, fun G7 H7 D2 us2 lm E7 g7 nD2 h7 da7 c7 => ?_⟩
        have dD2 : D2 ≠ D := (ne_of_none h6 nD2).symm
        repeat walk_at "rd3"
        refine ⟨⟨_, SqL.of h7⟩, ?_⟩
        have l7 := da7.len
        rw [List.length_map] at l7
        generalize hb : decide (i = 1) = bb at *
        refine for_go (walk_list (xs := us2)) (fun j σ H' => ∃ (G8 : Hp) (us' : List V) (w8 : Option V), σ = [some (.ref a), some (.str s), some vx, some vy, some (.ref D), some (.bl bb), some vm, some vo, w8] ∧ Ex [D] G7 H7 G8 H' ∧ G8 D = none ∧ H' D = some (.lst us') ∧ DatA G8 us' ((ls ++ ((lm.take j).filter (alwB co)).map ((s, bb) :: ·)).map prD))
          ⟨G7, us, w8, rfl, Ex.refl E7.gh, E7.out g6 h6, E7.at_ h6 (fun z => nomatch z), by simpa using da6.up E7.gg⟩ (fun j σ H' hj hp => ?_) (fun j σ H' hj hp => ?_) (fun σ H' hp => ?_)
        · obtain ⟨G8, us', w8', rfl, E8, g8, h8, da8⟩ := hp
          exact E8.at_ h7 (by simpa using dD2)
        · obtain ⟨G8, us', w8', rfl, E8, g8, h8, da8⟩ := hp
          have hj2 : j < lm.length := by omega
          have hg : (lm.map prD)[j]? = some (prD lm[j]) := by rw [List.getElem?_map, List.getElem?_eq_getElem hj2]; rfl
          obtain ⟨u, gu, du⟩ := da7.get hg
          have nu : nth us2 j = u := Option.some.inj ((nth_at hj).symm.trans gu)
          rw [nu]
          have hsub := ((c7.mem lm[j]).mp (List.getElem_mem hj2)).1
          have fs := filter_snoc (p := alwB co) hj2
          generalize lm[j] = l at *
          have du8 := du.up E8.gg
          repeat walk_at "rd3"
          refine ⟨u, l, ys, G8, rfl, E8.gh, hy, hsub, du8, fun G9 H9 r9 E9 k9 => ?_⟩
          repeat walk_at "rd3"
          refine ⟨r9, vo, ys, pc l, co, G9, rfl, E9.gh, hy, pc_oc hsub, oco, by omega, k9, ((dO6.up E7.gg).up E8.gg).up E9.gg, fun G10 H10 b10 E10 hb10 => ?_⟩
          have hb11 : b10 = true ↔ Alw co l := hb10.trans implies_alw
          have E89 := E9.trans E10
          have h10 := E89.at_ h8 (fun z => nomatch z)
          have few1 := pl_few pl
          have few2 := c7.few
          have pw9 : 3 ^ ys.length ≤ 3 ^ 9 := Nat.pow_le_pow_right (by decide) (by omega)
          have pv9 : 3 ^ 9 = 19683 := by decide
          have l8 := da8.len
          have g8l := List.length_filter_le (alwB co) (lm.take j)
          have g8m := List.length_take_le j lm
          have g8n := List.length_take_le' j lm
          rw [List.length_map, List.length_append, List.length_map] at l8
          have fewi : (i + 1) * 3 ^ ys.length ≤ 2 * 3 ^ ys.length := Nat.mul_le_mul_right _ (by have : i < 2 := hi; omega)
          have lus : us'.length ≤ 90000 := by omega
          have ll : l.length ≤ 9 := by
            have := hsub.length_le
            rw [List.length_map] at this
            omega
          obtain ⟨b2, us3, eu, eb2, db2⟩ := du8.tup_inv
          subst eu
          have l3 := db2.len
          rw [List.length_map] at l3
          repeat walk_at "rd3"
          refine ite2 (fun e => ?_) (fun e => ?_)
          · have ea : alwB co l = true := alwB_iff.mpr fun z => by
              rw [hb11.mpr z] at e
              exact absurd e (by decide)
            rw [if_pos ea] at fs
            repeat walk_at "rd3"
            refine ⟨line_le (by show 2 ≤ _; decide), fun q1 m1 => ?_⟩
            have K1 := (Ex.refl (M := []) E10.gh).dat (o := .tup [.str s, .bl bb]) m1
            have t1 := Dat.newT (p := q1) (.cons (.str s) (.cons (.bl bb) .nil)) (E10.gh.free m1)
            repeat walk_at "rd3"
            refine ⟨line_le (by show 1 ≤ _; decide), fun q2 m2 => ?_⟩
            have K2 := K1.dat (o := .tup [.ref q1]) m2
            have t1' := t1.up (same_updG (o := .tup [.ref q1]) (K1.gh.free m2))
            have t2 := Dat.newT (p := q2) (.cons t1 .nil) (K1.gh.free m2)
            have h12 := K2.at_ h10 (fun z => nomatch z)
            have eb3 := K2.gh _ _ (K2.gg _ _ (E89.gg _ _ eb2))
            have db3 := (db2.up E89.gg).up K2.gg
            repeat walk_at "rd3"
            refine .inr (.inr (.inr ⟨q2, b2, _, _, rfl, rfl, SqT.of upd_same, SqT.of eb3, by simp, line_le (by simp; omega), fun e0 => ?_, fun e0 q3 m3 => ?_⟩))
            · have el : l = [] := List.eq_nil_of_length_eq_zero (by rw [← l3, e0]; rfl)
              subst el
              repeat walk_at "rd3"
              refine appL h12 (line_lt (by omega)) ?_
              have EE := (E8.pure E89).pure K2
              refine ⟨_, _, _, rfl, EE.wr (EE.out (E7.out g6 h6) (E7.at_ h6 (fun z => nomatch z))) (.inl (by simp)), EE.out (E7.out g6 h6) (E7.at_ h6 (fun z => nomatch z)), upd_same, ?_⟩
              rw [fs, snoc_prD]
              exact ((da8.up E89.gg).up K2.gg).app (.cons t2 .nil)
            · have K3 := K2.dat (o := .tup ([.ref q1] ++ us3)) m3
              have t3 := Dat.newT (p := q3) ((DatA.cons t1' .nil).app db3) (K2.gh.free m3)
              have h13 := K3.at_ h10 (fun z => nomatch z)
              repeat walk_at "rd3"
              refine appL h13 (line_lt (by omega)) ?_
              have EE := (E8.pure E89).pure K3
              refine ⟨_, _, _, rfl, EE.wr (EE.out (E7.out g6 h6) (E7.at_ h6 (fun z => nomatch z))) (.inl (by simp)), EE.out (E7.out g6 h6) (E7.at_ h6 (fun z => nomatch z)), upd_same, ?_⟩
              rw [fs, snoc_prD]
              exact ((da8.up E89.gg).up K3.gg).app (.cons t3 .nil)
          · have ea : ¬ alwB co l = true := fun z => alwB_iff.mp z (hb11.mp (by
              cases hb : b10 with
              | true => rfl
              | false => rw [hb] at e; exact absurd rfl e))
            rw [if_neg ea, List.append_nil] at fs
            refine ⟨_, _, _, rfl, E8.pure E89, E89.out g8 h8, h10, ?_⟩
            rw [fs]
            exact da8.up E89.gg
        · obtain ⟨G8, us', w8', rfl, E8, g8, h8, da8⟩ := hp
          rw [List.take_of_length_le (by omega)] at da8
          refine ⟨G8, us', _, _, _, _, _, rfl, (E6.pure E7).trans E8, g8, h8, da8, ls, lm, alwB co, pl, ?_, fun l hl => ?_, by rw [hb]⟩
          · rw [← ecm]; exact c7
          · rw [← eco]; exact alwB_iff
      · obtain ⟨G', us, ls, w5, w6, w7, w8, rfl, E6, g6, h6, da6, pl⟩ := hp
        repeat walk_at "rd3"
        refine q G' H' D us ls (E5.step E6 fun m hm => .inr ?_) g6 nD0 h6 da6 ((pl_done hsy.nd ox oy pl).ups ocn hn.nd)
        have e : m = D := by simpa using hm
        rw [e]
        exact nD0
end
section
variable {P : Program} {w : World} {K : PySem.W.Frag} {mg : Str → Option Value} {base : Heap}
abbrev sortP (ls : List Pt) : List PyData := (ls.map prD).mergeSort (W.dataLe false id)
def spLeast (K : PySem.W.Frag) : Sp := fun vs H Q _ => ∃ (v : V) (ns : List Str) (c : C) (G : Hp), vs = [v] ∧ Same G H ∧ NS ns ∧ OC ns c ∧ ns.length ≤ 8 ∧ Dat G v c.enc ∧
  ∀ (G' H' : Hp) (r : V) (ls : List Pt), Ex [] G H G' H' → CL ns c ls → Dat G' r (.tuple (sortP ls)) → Q r H'
theorem ok_least_causes (T : Tp K mg) : FnOk P w K mg base CX0 22 T.a_least_causes T.d_least_causes ["condition"] (spLeast K) := by
  have G_cause_list := ok_cause_list (P := P) (w := w) (base := base) T 9
  refine T.F_least_causes.ok sc_least_causes (fun vs H Q E h => ?_) (fun cdv A outer s H vs Q E hr h => ?_)
  · obtain ⟨_, _, _, _, rfl, _⟩ := h; rfl
  obtain ⟨v, ns, c, G, rfl, sm, hn, hc, hl, d1, q⟩ := h
  have hu64 := hr.units
  refine ⟨_, (pss_one (ps_ret (pe_callTy (call_tuple_ofK (K := K) rfl) (by rfl) T.z_tuple (by decide +kernel) (pa_cons (pe_callB (cr_sortedDK (K := K) rfl hu64) (by rfl) T.z_sorted (by decide +kernel) (pa_cons (pe_call G_cause_list (hr.mono (by omega)) (by rfl) T.g_cause_list T.F_cause_list.kp T.b_cause_list .nil pass0 (pa_cons (pv 0) pa_nil)) pa_nil)) pa_nil)))), ?_⟩
  repeat walk_at "rd3"
  refine ⟨v, ns, c, G, rfl, sm, hn, hc, by omega, by omega, d1, fun G2 H2 D us ls E2 g2 nD h2 da2 c2 => ?_⟩
  repeat walk_at "rd3"
  refine ⟨G2, D, us, _, rfl, h2, E2.gh, da2, prD_all ls, fun h => prD_sortable (c2.more (by simpa using h)), fun d hd => ?_, fun ws p dw np => ?_⟩
  · obtain ⟨l, _, rfl⟩ := List.mem_map.mp hd
    exact prD_depth l
  have E3 := E2.new (o := .lst ws) np
  repeat walk_at "rd3"
  refine ⟨p, ws, rfl, .inl ⟨SqL.of upd_same, fun p2 n2 => ?_⟩⟩
  have E4 := E3.dat (o := .tup ws) n2
  exact q _ _ _ ls E4 c2 (Dat.newT dw (E3.gh.free n2))
/-! ### the law's own -/
def spOpen (K : PySem.W.Frag) : Sp := fun vs H Q _ => ∃ (n : Nat) (G : Hp), vs = [.int (n : Nat)] ∧ Same G H ∧ n ≤ 8 ∧ ∀ G' H' r, Ex [] G H G' H' → Dat G' r (.list ((OP n).map natsD)) → Q r H'
theorem ok_openings (T : Tp K mg) : FnOk P w K mg base CX0 1 T.a_openings T.d_openings ["_law_many"] (spOpen K) := by
  refine T.F_openings.ok sc_openings (fun vs H Q E h => ?_) (fun cdv A outer s H vs Q E hr h => ?_)
  · obtain ⟨_, _, rfl, _⟩ := h; rfl
  obtain ⟨n, G, rfl, sm, n8, q⟩ := h
  refine ⟨_, (pss_cons (ps_set (i := 1) sc_openings.nd rfl (Or.inl rfl) (pe_lst (pa_cons (pe_lst pa_nil) pa_nil)))
  (pss_cons (ps_for PassesOwn.never rfl (pi_range1 (by rfl) T.z_range (pa_cons (pv 0) pa_nil)) (pg_name (i := 2) sc_openings.nd rfl (Or.inl rfl))
  (pss_one (ps_set (i := 1) sc_openings.nd rfl (Or.inl rfl) (pe_op (op_addAK (K := K) rfl) (pe_op (op_addAK (K := K) rfl) (pe_lc (own := [("_law_row", 3)]) rfl sc_openings.nd (pi_listK (K := K) rfl (pv 1)) (blkOk_by (own := [("_law_row", 3)]) (N := ["_law_many", "_law_told", "_law_k", "_law_row"]) (sc := defScope s_openings) (scope := { kind := PySem.ScopeKind.function, names := [(PySem.Str.ofString ".0", PySem.NameKind.local), (PySem.Str.ofString "_law_row", PySem.NameKind.local)], isGenerator := false, isCoroutine := false, more := [] : PySem.Scope }) (by decide +kernel)) (fun _ _ _ _ _ => (pg_name (i := 3) sc_openings.nd rfl (Or.inl rfl) (Or.inr rfl))) (fun _ _ _ _ _ => pts_nil) (fun _ _ _ _ _ => (pe_op (op_addAK (K := K) rfl) (pv 3) (pe_lst (pa_cons pe_int pa_nil))))) (pe_lc (own := [("_law_row", 3)]) rfl sc_openings.nd (pi_listK (K := K) rfl (pv 1)) (blkOk_by (own := [("_law_row", 3)]) (N := ["_law_many", "_law_told", "_law_k", "_law_row"]) (sc := defScope s_openings) (scope := { kind := PySem.ScopeKind.function, names := [(PySem.Str.ofString ".0", PySem.NameKind.local), (PySem.Str.ofString "_law_row", PySem.NameKind.local)], isGenerator := false, isCoroutine := false, more := [] : PySem.Scope }) (by decide +kernel)) (fun _ _ _ _ _ => (pg_name (i := 3) sc_openings.nd rfl (Or.inl rfl) (Or.inr rfl))) (fun _ _ _ _ _ => pts_nil) (fun _ _ _ _ _ => (pe_op (op_addAK (K := K) rfl) (pv 3) (pe_lst (pa_cons pe_int pa_nil)))))) (pe_lc (own := [("_law_row", 3)]) rfl sc_openings.nd (pi_listK (K := K) rfl (pv 1)) (blkOk_by (own := [("_law_row", 3)]) (N := ["_law_many", "_law_told", "_law_k", "_law_row"]) (sc := defScope s_openings) (scope := { kind := PySem.ScopeKind.function, names := [(PySem.Str.ofString ".0", PySem.NameKind.local), (PySem.Str.ofString "_law_row", PySem.NameKind.local)], isGenerator := false, isCoroutine := false, more := [] : PySem.Scope }) (by decide +kernel)) (fun _ _ _ _ _ => (pg_name (i := 3) sc_openings.nd rfl (Or.inl rfl) (Or.inr rfl))) (fun _ _ _ _ _ => pts_nil) (fun _ _ _ _ _ => (pe_op (op_addAK (K := K) rfl) (pv 3) (pe_lst (pa_cons pe_int pa_nil)))))))))
  (pss_one (ps_ret (pv 1))))), ?_⟩
  repeat walk_at "rd3"
  refine ⟨line_le (Nat.zero_le _), fun p1 n1 => ?_⟩
  have E1 := (Ex.refl (M := []) sm).dat (o := .lst []) n1
  repeat walk_at "rd3"
  refine ⟨line_le (by show 1 ≤ _; decide), fun p2 n2 => ?_⟩
  have E2 := E1.dat (o := .lst [.ref p1]) n2
  have k2 := Dat.newL (p := p2) (.cons (Dat.newL (p := p1) .nil (sm.free n1)) .nil) (E1.gh.free n2)
  repeat walk_at "rd3"
  refine for_range (lo := 0) (n := n) (fun i σ H' => ∃ (G' : Hp) (v2 : V) (y z : Option V), σ = [some (.int (n : Nat)), some v2, y, z] ∧ Ex [] G H G' H' ∧ Dat G' v2 (.list ((OP i).map natsD)))
    ⟨_, .ref p2, none, none, rfl, E2, k2⟩ (fun i σ H' hi hp => ?_) (fun σ H' hp => ?_)
  · obtain ⟨G', v2, y, z, rfl, E3, k3⟩ := hp
    obtain ⟨b, ws, rfl, eb, db⟩ := k3.list_inv
    have lo := op_len i
    have po : 3 ^ i ≤ 3 ^ 8 := Nat.pow_le_pow_right (by decide) (by omega)
    have pv : 3 ^ 8 = 6561 := by decide
    have eHb := E3.gh _ _ eb
    -- one comprehension
    have one : ∀ (a : Nat) (G4 H4 : Hp) (x : List Nat) (u : V) (pa : Addr), x ∈ OP i → Same G4 H4 → Dat G4 u (natsD x) → G4 pa = some (.lst [.int a]) → ∀ (Q : VK), (∀ y G2 H2, Ex [] G4 H4 G2 H2 → Dat G2 y (natsD (x ++ [a])) → Q y H2) → rAddA K u (.ref pa) H4 Q := by
      intro a G4 H4 x u pa hx s4 du ep Q hq
      obtain ⟨b2, ws2, rfl, eb2, db2⟩ := du.list_inv
      have z2 := db2.nats_inv
      subst z2
      have lx := (op_mem.mp hx).1
      refine catL (s4 _ _ eb2) (s4 _ _ ep) (by simp; omega) fun p4 n4 => ?_
      have ed : natsD (x ++ [a]) = .list (x.map (fun x => PyData.int (x : Nat)) ++ [.int (a : Nat)]) := by simp [natsD]
      refine hq _ _ _ ((Ex.refl s4).dat n4) ?_
      rw [ed]
      exact Dat.newL ((DatA.nats x).app (.cons (.int _) .nil)) (s4.free n4)
    have item : ∀ (a : Nat) (x : List Nat) (u : V) (G1 H1 : Hp), x ∈ OP i → Same G1 H1 → Dat G1 u (natsD x) → ∀ (C : VK), (∀ y G2 H2, Ex [] G1 H1 G2 H2 → Dat G2 y (natsD (x ++ [a])) → C y H2) → ∀ pa, H1 pa = none → rAddA K u (.ref pa) (upd H1 pa (.lst [.int a])) C := by
      intro a x u G1 H1 hx s1 du C hC pa na
      have F := (Ex.refl (M := []) s1).dat (o := .lst [.int a]) na
      exact one a _ _ x u pa hx F.gh (du.up (same_updG (s1.free na))) upd_same C fun y G2 H2 F2 dy => hC y G2 H2 (F.trans F2) dy
    repeat walk_at "rd3"
    refine ⟨⟨_, SqL.of eHb⟩, ?_⟩
    refine comp_map (OP i) natsD (fun x => natsD (x ++ [0])) E3.gh eHb db (by omega) (fun x u G1 H1 hx F1 du C C' hC => ?_) (fun G4 H4 D1 F4 d4 => ?_)
    · refine ⟨rfl, lcYes ?_⟩
      repeat walk_at "rd3"
      refine ⟨line_le (by show 1 ≤ _; decide), fun pa na => ?_⟩
      repeat walk_at "rd3"
      exact item 0 x u G1 H1 hx F1.gh du C hC pa na
    have eHb4 := F4.same _ _ eHb
    repeat walk_at "rd3"
    refine ⟨⟨_, SqL.of eHb4⟩, ?_⟩
    refine comp_map (OP i) natsD (fun x => natsD (x ++ [1])) F4.gh eHb4 (db.up F4.gg) (by omega) (fun x u G1 H1 hx F1 du C C' hC => ?_) (fun G5 H5 D2 F5 d5 => ?_)
    · refine ⟨rfl, lcYes ?_⟩
      repeat walk_at "rd3"
      refine ⟨line_le (by show 1 ≤ _; decide), fun pa na => ?_⟩
      repeat walk_at "rd3"
      exact item 1 x u G1 H1 hx F1.gh du C hC pa na
    obtain ⟨c1, w1, er1, ec1, dc1⟩ := (d4.up F5.gg).list_inv
    cases er1
    obtain ⟨c2, w2, er2, ec2, dc2⟩ := d5.list_inv
    cases er2
    have lw1 := dc1.len
    have lw2 := dc2.len
    rw [List.length_map] at lw1 lw2
    repeat walk_at "rd3"
    refine catL (F5.gh _ _ ec1) (F5.gh _ _ ec2) (by omega) fun p6 n6 => ?_
    have F6 := F5.dat (o := .lst (w1 ++ w2)) n6
    have F46 := F4.trans F6
    have d6 := Dat.newL (p := p6) (dc1.app dc2) (F5.gh.free n6)
    have eHb6 := F46.same _ _ eHb
    repeat walk_at "rd3"
    refine ⟨⟨_, SqL.of eHb6⟩, ?_⟩
    refine comp_map (OP i) natsD (fun x => natsD (x ++ [2])) F46.gh eHb6 (db.up F46.gg) (by omega) (fun x u G1 H1 hx F1 du C C' hC => ?_) (fun G7 H7 D3 F7 d7 => ?_)
    · refine ⟨rfl, lcYes ?_⟩
      repeat walk_at "rd3"
      refine ⟨line_le (by show 1 ≤ _; decide), fun pa na => ?_⟩
      repeat walk_at "rd3"
      exact item 2 x u G1 H1 hx F1.gh du C hC pa na
    obtain ⟨c3, w3, er3, ec3, dc3⟩ := (d6.up F7.gg).list_inv
    cases er3
    obtain ⟨c4, w4, er4, ec4, dc4⟩ := d7.list_inv
    cases er4
    have lw3 := dc3.len
    have lw4 := dc4.len
    rw [List.length_append, List.length_map, List.length_map] at lw3
    rw [List.length_map] at lw4
    repeat walk_at "rd3"
    refine catL (F7.gh _ _ ec3) (F7.gh _ _ ec4) (by omega) fun p8 n8 => ?_
    have F8 := F7.dat (o := .lst (w3 ++ w4)) n8
    have d8 := Dat.newL (p := p8) (dc3.app dc4) (F7.gh.free n8)
    refine ⟨_, .ref p8, _, _, rfl, (E3.trans F46).trans F8, ?_⟩
    have ed : (OP (i + 1)).map natsD = ((OP i).map (fun x => natsD (x ++ [0])) ++ (OP i).map (fun x => natsD (x ++ [1]))) ++ (OP i).map (fun x => natsD (x ++ [2])) := by
      show ((OP i).map (· ++ [0]) ++ (OP i).map (· ++ [1]) ++ (OP i).map (· ++ [2])).map natsD = _
      rw [List.map_append, List.map_append, List.map_map, List.map_map, List.map_map]
      rfl
    rw [ed]
    exact d8
  · obtain ⟨G', v2, y, z, rfl, E3, k3⟩ := hp
    repeat walk_at "rd3"
    exact q G' H' v2 E3 k3
end
section
variable {P : Program} {w : World} {K : PySem.W.Frag} {mg : Str → Option Value} {base : Heap}
def spInside (K : PySem.W.Frag) : Sp := fun vs H Q _ => ∃ (v : V) (p : List Nat) (G : Hp), vs = [v] ∧ Same G H ∧ p.length ≤ 8 ∧ Dat G v (natsD p) ∧ ∀ G' H' r, Ex [] G H G' H' → Dat G' r (rowD (ins p)) → Q r H'
theorem ok_inside (T : Tp K mg) : FnOk P w K mg base CX0 1 T.a_inside T.d_inside ["_law_part"] (spInside K) := by
  refine T.F_inside.ok sc_inside (fun vs H Q E h => ?_) (fun cdv A outer s H vs Q E hr h => ?_)
  · obtain ⟨_, _, _, rfl, _⟩ := h; rfl
  obtain ⟨v, p, G, rfl, sm, l8, d1, q⟩ := h
  have hu64 := hr.units
  refine ⟨_, (pss_cons (ps_set (i := 1) sc_inside.nd rfl (Or.inl rfl) (pe_lst (pa_cons pe_bl pa_nil)))
  (pss_cons (ps_for PassesOwn.never rfl (pi_reversedK (K := K) rfl (by rfl) T.z_reversed (pa_cons (pv 0) pa_nil)) (pg_name (i := 2) sc_inside.nd rfl (Or.inr rfl))
  (pss_one (ps_set (i := 1) sc_inside.nd rfl (Or.inl rfl) (pe_op (op_addAK (K := K) rfl) (pe_lc (own := [("_law_truth", 3)]) rfl sc_inside.nd (pi_listK (K := K) rfl (pv 1)) (blkOk_by (own := [("_law_truth", 3)]) (N := ["_law_part", "_law_told", "_law_one", "_law_truth"]) (sc := defScope s_inside) (scope := { kind := PySem.ScopeKind.function, names := [ (PySem.Str.ofString ".0", PySem.NameKind.local), (PySem.Str.ofString "_law_truth", PySem.NameKind.local), (PySem.Str.ofString "_law_one", PySem.NameKind.free)], isGenerator := false, isCoroutine := false, more := [] : PySem.Scope }) (by decide +kernel)) (fun _ _ _ _ _ => (pg_name (i := 3) sc_inside.nd rfl (Or.inl rfl) (Or.inr rfl))) (fun _ _ _ _ _ => pts_nil) (fun _ _ _ _ _ => (pe_and (pv 3) (pe_one (pe_cmpR (op_neDK (K := K) rfl hu64) (pv 2) pe_int (nomark _)))))) (pe_lc (own := [("_law_truth", 3)]) rfl sc_inside.nd (pi_listK (K := K) rfl (pv 1)) (blkOk_by (own := [("_law_truth", 3)]) (N := ["_law_part", "_law_told", "_law_one", "_law_truth"]) (sc := defScope s_inside) (scope := { kind := PySem.ScopeKind.function, names := [ (PySem.Str.ofString ".0", PySem.NameKind.local), (PySem.Str.ofString "_law_truth", PySem.NameKind.local), (PySem.Str.ofString "_law_one", PySem.NameKind.free)], isGenerator := false, isCoroutine := false, more := [] : PySem.Scope }) (by decide +kernel)) (fun _ _ _ _ _ => (pg_name (i := 3) sc_inside.nd rfl (Or.inl rfl) (Or.inr rfl))) (fun _ _ _ _ _ => pts_nil) (fun _ _ _ _ _ => (pe_and (pv 3) (pe_one (pe_cmpR (op_neDK (K := K) rfl hu64) (pv 2) pe_int (nomark _))))))))))
  (pss_one (ps_ret (pv 1))))), ?_⟩
  obtain ⟨a, xs, rfl, ea, da⟩ := d1.list_inv
  have z := da.nats_inv
  subst z
  have eH := sm _ _ ea
  repeat walk_at "rd3"
  refine ⟨line_le (by show 1 ≤ _; decide), fun p2 n2 => ?_⟩
  have E2 := (Ex.refl (M := []) sm).dat (o := .lst [.bl true]) n2
  have k2 := Dat.newL (p := p2) (.cons (.bl true) .nil) (sm.free n2)
  have eH2 := E2.same _ _ eH
  repeat walk_at "rd3"
  refine ⟨a, _, rfl, SqL.of eH2, ?_⟩
  refine for_go walk_rev (fun i σ H' => ∃ (G' : Hp) (v2 : V) (y z : Option V), σ = [some (.ref a), some v2, y, z] ∧ Ex [] G H G' H' ∧ Dat G' v2 (rowD (ins (p.drop (p.length - i)))))
    ⟨_, .ref p2, none, none, rfl, E2, by rw [Nat.sub_zero, List.drop_length]; exact k2⟩ (fun i σ H' hi hp => ?_) (fun i σ H' hi hp => ?_) (fun σ H' hp => ?_)
  · obtain ⟨G', v2, y, z, rfl, E3, k3⟩ := hp
    exact E3.same _ _ eH
  · obtain ⟨G', v2, y, z, rfl, E3, k3⟩ := hp
    rw [List.length_map] at hi
    have hj : p.length - 1 - i < p.length := by omega
    have hx : nth (p.map fun x => V.int (x : Nat)) ((p.map fun x => V.int (x : Nat)).length - 1 - i) = .int (p[p.length - 1 - i] : Nat) := by
      have k := nth_at (xs := p.map fun x => V.int (x : Nat)) (i := (p.map fun x => V.int (x : Nat)).length - 1 - i) (by rw [List.length_map]; exact hj)
      rw [List.getElem?_map, List.length_map, List.getElem?_eq_getElem hj] at k
      rw [List.length_map]
      exact (Option.some.inj k).symm
    have hdr : p.drop (p.length - (i + 1)) = p[p.length - 1 - i] :: p.drop (p.length - i) := by
      have k := List.drop_eq_getElem_cons hj
      rw [show p.length - (i + 1) = p.length - 1 - i by omega, k]
      congr 2
      omega
    rw [hx]
    generalize p[p.length - 1 - i] = x at *
    generalize hxs : p.drop (p.length - i) = ps at *
    have lxs : ps.length ≤ 8 := by rw [← hxs, List.length_drop]; omega
    have lin : (ins ps).length ≤ 2 ^ 8 := by rw [ins_len]; exact Nat.pow_le_pow_right (by decide) lxs
    obtain ⟨b, ws, rfl, eb, db⟩ := k3.list_inv
    have lw := db.len
    rw [List.length_map] at lw
    have eHb := E3.gh _ _ eb
    repeat walk_at "rd3"
    refine ⟨⟨_, SqL.of eHb⟩, ?_⟩
    refine comp_map (ins ps) PyData.bool (fun t => PyData.bool (t && decide (x ≠ 1))) E3.gh eHb db (by omega) (fun t u G1 H1 ht F1 du C C' hC => ?_) (fun G4 H4 D1 F4 d4 => ?_)
    · cases du
      refine ⟨rfl, lcYes ?_⟩
      repeat walk_at "rd3"
      refine ite2 (fun e => ?_) (fun e => ?_)
      · have ev : (!(((x : Nat) : Int) == 1)) = (t && decide (x ≠ 1)) := by
          rw [e, Bool.true_and, Bool.eq_iff_iff]
          simp
          try omega
        repeat walk_at "rd3"
        rw [ev]
        exact hC _ G1 H1 (Ex.refl F1.gh) (.bl _)
      · have e : t = false := by simpa using e
        subst e
        exact hC _ G1 H1 (Ex.refl F1.gh) (.bl _)
    have eHb4 := F4.same _ _ eHb
    repeat walk_at "rd3"
    refine ⟨⟨_, SqL.of eHb4⟩, ?_⟩
    refine comp_map (ins ps) PyData.bool (fun t => PyData.bool (t && decide (x ≠ 0))) F4.gh eHb4 (db.up F4.gg) (by omega) (fun t u G1 H1 ht F1 du C C' hC => ?_) (fun G5 H5 D2 F5 d5 => ?_)
    · cases du
      refine ⟨rfl, lcYes ?_⟩
      repeat walk_at "rd3"
      refine ite2 (fun e => ?_) (fun e => ?_)
      · have ev : (!(((x : Nat) : Int) == 0)) = (t && decide (x ≠ 0)) := by
          rw [e, Bool.true_and, Bool.eq_iff_iff]
          simp
          try omega
        repeat walk_at "rd3"
        rw [ev]
        exact hC _ G1 H1 (Ex.refl F1.gh) (.bl _)
      · have e : t = false := by simpa using e
        subst e
        exact hC _ G1 H1 (Ex.refl F1.gh) (.bl _)
    obtain ⟨c1, w1, er1, ec1, dc1⟩ := (d4.up F5.gg).list_inv
    cases er1
    obtain ⟨c2, w2, er2, ec2, dc2⟩ := d5.list_inv
    cases er2
    have lw1 := dc1.len
    have lw2 := dc2.len
    rw [List.length_map] at lw1 lw2
    repeat walk_at "rd3"
    refine catL (F5.gh _ _ ec1) (F5.gh _ _ ec2) (by omega) fun p6 n6 => ?_
    have F6 := F5.dat (o := .lst (w1 ++ w2)) n6
    have d6 := Dat.newL (p := p6) (dc1.app dc2) (F5.gh.free n6)
    refine ⟨_, .ref p6, _, _, rfl, (E3.trans F4).trans F6, ?_⟩
    have ed : rowD (ins (x :: ps)) = .list ((ins ps).map (fun t => PyData.bool (t && decide (x ≠ 1))) ++ (ins ps).map (fun t => PyData.bool (t && decide (x ≠ 0)))) := by
      show PyData.list (((ins ps).map (fun t => t && decide (x ≠ 1)) ++ (ins ps).map (fun t => t && decide (x ≠ 0))).map PyData.bool) = _
      rw [List.map_append, List.map_map, List.map_map]
      rfl
    rw [hdr, ed]
    exact d6
  · obtain ⟨G', v2, y, z, rfl, E3, k3⟩ := hp
    rw [List.length_map, Nat.sub_self, List.drop_zero] at k3
    repeat walk_at "rd3"
    exact q G' H' v2 E3 k3
def spAlways (K : PySem.W.Frag) : Sp := fun vs H Q _ => ∃ (v1 v2 : V) (ns : List Str) (c : C) (p : List Nat) (row : List Bool) (G : Hp), vs = [v1, v2] ∧ Same G H ∧ NS ns ∧ Rep ns c row ∧ ns.length ≤ 8 ∧ p.length = ns.length ∧ (∀ x ∈ p, x ≤ 2) ∧ Dat G v1 (natsD p) ∧ Dat G v2 (rowD row) ∧
  ∀ G' H' b, Ex [] G H G' H' → (b = true ↔ Alw c (prs ns p)) → Q (.bl b) H'
theorem ok_always (T : Tp K mg) : FnOk P w K mg base CX0 2 T.a_always T.d_always ["_law_part", "_law_row"] (spAlways K) := by
  have G_inside := ok_inside (P := P) (w := w) (base := base) T
  refine T.F_always.ok sc_always (fun vs H Q E h => ?_) (fun cdv A outer s H vs Q E hr h => ?_)
  · obtain ⟨_, _, _, _, _, _, _, rfl, _⟩ := h; rfl
  obtain ⟨v1, v2, ns, c, p, row, G, rfl, sm, hn, rp, l8, lp, hp2, d1, d2, q⟩ := h
  have hu64 := hr.units
  refine ⟨_, (pss_cons (ps_set (i := 2) sc_always.nd rfl (Or.inr rfl) (pe_call G_inside (hr.mono (by omega)) (by rfl) T.g_inside T.F_inside.kp T.b_inside .nil pass0 (pa_cons (pv 0) pa_nil)))
  (pss_one (ps_ret (pe_cmpR (op_eqDK (K := K) rfl hu64) (pe_callB (call_lenK (K := K) rfl) (by rfl) T.z_len (by decide +kernel) (pa_cons (pe_lc (own := [("_law_k", 3)]) rfl sc_always.nd (pi_range1 (by rfl) T.z_range (pa_cons (pe_callB (call_lenK (K := K) rfl) (by rfl) T.z_len (by decide +kernel) (pa_cons (pv 1) pa_nil)) pa_nil)) (blkOk_by (own := [("_law_k", 3)]) (N := ["_law_part", "_law_row", "_law_inside_here", "_law_k"]) (sc := defScope s_always) (scope := { kind := PySem.ScopeKind.function, names := [ (PySem.Str.ofString ".0", PySem.NameKind.local), (PySem.Str.ofString "_law_k", PySem.NameKind.local), (PySem.Str.ofString "_law_inside_here", PySem.NameKind.free), (PySem.Str.ofString "_law_row", PySem.NameKind.free)], isGenerator := false, isCoroutine := false, more := [] : PySem.Scope }) (by decide +kernel)) (fun _ _ _ _ _ => (pg_name (i := 3) sc_always.nd rfl (Or.inl rfl) (Or.inr rfl))) (fun _ _ _ _ _ => (pts_one (PW.pt (pw_and (pt_truthK (K := K) rfl (pe_ix (ix_seqK (K := K) rfl) (pv 2) (pv 3) (fun _ _ => rfl)) (by intro _; rfl)) (pw_and1 (pt_not (pt_truthK (K := K) rfl (pe_ix (ix_seqK (K := K) rfl) (pv 1) (pv 3) (fun _ _ => rfl)) (by intro _; rfl)))))))) (fun _ _ _ _ _ => (pv 3))) pa_nil)) pe_int (nomark _))))), ?_⟩
  have pf : 2 ^ ns.length ≤ 2 ^ 8 := Nat.pow_le_pow_right (by decide) l8
  have p8 : (2 : Nat) ^ 8 = 256 := by decide
  obtain ⟨a2, x2, rfl, e2, da2⟩ := d2.list_inv
  have z2 := da2.bls_inv
  subst z2
  have eH2 := sm _ _ e2
  have lr : (row.map V.bl).length = 2 ^ ns.length := by rw [List.length_map]; exact rp.len
  repeat walk_at "rd3"
  refine ⟨v1, p, G, rfl, sm, by omega, d1, fun G2 H2 r2 E2 k2 => ?_⟩
  obtain ⟨a3, x3, rfl, e3, da3⟩ := k2.list_inv
  have z3 := da3.bls_inv
  subst z3
  have ri := rep_ins hn.nd lp hp2
  have eH3 := E2.gh _ _ e3
  have eH2b := E2.same _ _ eH2
  repeat walk_at "rd3"
  rw [lr]
  refine comp_goD (M := []) (fun k acc G' H' => (acc = [] ↔ ∀ j, j < k → (pc (prs ns p)).ev (asg ns j) = true → c.ev (asg ns j) = true)) walk_range E2.gh (line_lt (by omega)) (fun m hm => nomatch hm) (fun _ _ _ => trivial) ⟨fun _ j hj => absurd hj (Nat.not_lt_zero j), fun _ => rfl⟩ (fun i acc G' H' D o hp n1 n2 => hp) (fun i acc G' H' D o hp n1 n2 => hp)
    (fun k acc G4 H4 hk E4 hp C C' hC hC' => ?_) (fun G' H' D acc E4 dr hacc hp => ?_)
  · have hk2 : k < 2 ^ ns.length := by omega
    have eH3' := E4.same _ _ eH3
    have eH2' := E4.same _ _ eH2b
    refine ⟨rfl, ?_⟩
    repeat walk_at "rd3"
    refine ixL eH3' (by omega) (row_at ri hk2) ?_
    repeat walk_at "rd3"
    have yes : ((pc (prs ns p)).ev (asg ns k) = true → c.ev (asg ns k) = true) → (acc = [] ↔ ∀ j, j < k + 1 → (pc (prs ns p)).ev (asg ns j) = true → c.ev (asg ns j) = true) := fun h => by
      rw [hp]
      refine ⟨fun g j hj => ?_, fun g j hj => g j (by omega)⟩
      by_cases e : j = k
      · rw [e]; exact h
      · exact g j (by omega)
    refine ite2 (fun e => ?_) (fun e => ?_)
    · repeat walk_at "rd3"
      refine ixL eH2' (by omega) (row_at rp hk2) ?_
      repeat walk_at "rd3"
      refine ite2 (fun e2 => ?_) (fun e2 => ?_)
      · repeat walk_at "rd3"
        refine hC _ G4 H4 (.int (0 + (k : Nat))) (Ex.refl E4.gh) (.int _) ⟨fun z => absurd z (by simp), fun g => ?_⟩
        have z := g k (by omega) e
        rw [z] at e2
        exact absurd e2 (by decide)
      · refine hC' G4 H4 (Ex.refl E4.gh) (yes fun _ => ?_)
        cases hz : c.ev (asg ns k) with
        | true => rfl
        | false => rw [hz] at e2; exact absurd rfl e2
    · exact hC' G4 H4 (Ex.refl E4.gh) (yes fun z => absurd z e)
  · obtain ⟨a4, x4, er, e4, da4⟩ := dr.list_inv
    cases er
    have eH4 := E4.gh _ _ e4
    repeat walk_at "rd3"
    refine q _ _ _ (E2.trans E4) ?_
    rw [← alw_rows hn.nd lp hp2 rp, beq_iff_eq]
    have l4 := da4.len
    have tnat : ((2 ^ ns.length : Nat) : Int).toNat = 2 ^ ns.length := by omega
    rw [tnat] at hp
    rw [← hp]
    constructor
    · intro h
      exact List.eq_nil_of_length_eq_zero (by omega)
    · rintro rfl
      rw [l4]
      rfl
def spIsLeast (K : PySem.W.Frag) : Sp := fun vs H Q _ => ∃ (v1 v2 : V) (ns : List Str) (c : C) (p : List Nat) (row : List Bool) (G : Hp), vs = [v1, v2] ∧ Same G H ∧ NS ns ∧ Rep ns c row ∧ ns.length ≤ 8 ∧ p.length = ns.length ∧ (∀ x ∈ p, x ≤ 2) ∧ Dat G v1 (natsD p) ∧ Dat G v2 (rowD row) ∧
  ∀ G' H' b, Ex [] G H G' H' → (b = true ↔ Lst c (prs ns p)) → Q (.bl b) H'
theorem ok_is_least (T : Tp K mg) : FnOk P w K mg base CX0 3 T.a_is_least T.d_is_least ["_law_part", "_law_row"] (spIsLeast K) := by
  have G_always := ok_always (P := P) (w := w) (base := base) T
  refine T.F_is_least.ok sc_is_least (fun vs H Q E h => ?_) (fun cdv A outer s H vs Q E hr h => ?_)
  · obtain ⟨_, _, _, _, _, _, _, rfl, _⟩ := h; rfl
  obtain ⟨v1, v2, ns, c, p, row, G, rfl, sm, hn, rp, l8, lp, hp2, d1, d2, q⟩ := h
  have hu64 := hr.units
  refine ⟨_, (pss_cons (ps_if (pt_not (pt_truthK (K := K) rfl (pe_call G_always (hr.mono (by omega)) (by rfl) T.g_always T.F_always.kp T.b_always .nil pass0 (pa_cons (pv 0) (pa_cons (pv 1) pa_nil))) (by intro _; rfl)))
  (pss_one (ps_ret pe_bl))
  pss_nil)
  (pss_cons (ps_for PassesOwn.never rfl (pi_range1 (by rfl) T.z_range (pa_cons (pe_callB (call_lenK (K := K) rfl) (by rfl) T.z_len (by decide +kernel) (pa_cons (pv 0) pa_nil)) pa_nil)) (pg_name (i := 2) sc_is_least.nd rfl (Or.inl rfl))
  (pss_one (ps_if (PW.pt (pw_and (pt_cmpR (op_neDK (K := K) rfl hu64) (pe_ix (ix_seqK (K := K) rfl) (pv 0) (pv 2) (fun _ _ => rfl)) pe_int (nomark _)) (pw_and1 (pt_truthK (K := K) rfl (pe_call G_always (hr.mono (by omega)) (by rfl) T.g_always T.F_always.kp T.b_always .nil pass0 (pa_cons (pe_op (op_addAK (K := K) rfl) (pe_op (op_addAK (K := K) rfl) (pe_slice (sl_anyK (K := K) rfl) (pv 0) po_none (po_some (pv 2))) (pe_lst (pa_cons pe_int pa_nil))) (pe_slice (sl_anyK (K := K) rfl) (pv 0) (po_some (pe_op (op_addAK (K := K) rfl) (pv 2) pe_int)) po_none)) (pa_cons (pv 1) pa_nil))) (by intro _; rfl)))))
  (pss_one (ps_ret pe_bl))
  pss_nil)))
  (pss_one (ps_ret pe_bl)))), ?_⟩
  obtain ⟨a1, x1, rfl, e1, da1⟩ := d1.list_inv
  have z1 := da1.nats_inv
  subst z1
  have eH1 := sm _ _ e1
  repeat walk_at "rd3"
  refine ⟨.ref a1, v2, ns, c, p, row, G, rfl, sm, hn, rp, l8, lp, hp2, d1, d2, fun G2 H2 b2 E2 hb2 => ?_⟩
  have eH1b := E2.same _ _ eH1
  repeat walk_at "rd3"
  refine ite2 (fun e => ?_) (fun e => ?_)
  · repeat walk_at "rd3"
    refine q G2 H2 false E2 ⟨fun z => absurd z (by decide), fun L => ?_⟩
    have z := hb2.mpr L.1
    rw [z] at e
    exact absurd e (by decide)
  · have A0 : Alw c (prs ns p) := hb2.mp (by
      cases hz : b2 with
      | true => rfl
      | false => rw [hz] at e; exact absurd rfl e)
    have lx : (p.map fun x => V.int (x : Nat)).length = p.length := List.length_map _
    repeat walk_at "rd3"
    rw [lx]
    refine for_range (lo := 0) (n := ((p.length : Nat) : Int).toNat) (fun i σ H' => ∃ (G' : Hp) (z : Option V), σ = [some (.ref a1), some v2, z] ∧ Ex [] G H G' H' ∧ ∀ j x, j < i → p[j]? = some x → x ≠ 2 → ¬ Alw c (prs ns (p.set j 2)))
      ⟨G2, none, rfl, E2, fun j x hj => absurd hj (Nat.not_lt_zero _)⟩ (fun i σ H' hi hp => ?_) (fun σ H' hp => ?_)
    · obtain ⟨G', z, rfl, E3, no⟩ := hp
      have hi2 : i < p.length := by omega
      have hz := List.getElem?_eq_getElem hi2
      have hx2 := hp2 _ (List.getElem_mem hi2)
      have eH1c := E3.same _ _ eH1
      have ti : (0 + (i : Int)).toNat = i := by omega
      generalize p[i] = x at *
      have nxt : (x ≠ 2 → ¬ Alw c (prs ns (p.set i 2))) → ∀ j y, j < i + 1 → p[j]? = some y → y ≠ 2 → ¬ Alw c (prs ns (p.set j 2)) := fun h j y hj hy n2 => by
        by_cases e : j = i
        · subst e
          rw [hz] at hy
          cases hy
          exact h n2
        · exact no j y (by omega) hy n2
      rw [Int.zero_add] at ti ⊢
      repeat walk_at "rd3"
      refine ixL eH1c (by omega) (by rw [ti, List.getElem?_map, hz]; rfl) ?_
      repeat walk_at "rd3"
      refine ite2 (fun e2 => ?_) (fun e2 => ?_)
      · have n2x : x ≠ 2 := fun z => by
          rw [z] at e2
          exact absurd e2 (by decide)
        repeat walk_at "rd3"
        refine slL eH1c fun p1 n1 => ?_
        rw [cut_to, ← List.map_take]
        have E4 := (Ex.refl (M := []) E3.gh).dat (o := .lst ((p.take i).map fun x => V.int (x : Nat))) n1
        repeat walk_at "rd3"
        refine ⟨line_le (by show 1 ≤ _; decide), fun p2 n2 => ?_⟩
        have E5 := E4.dat (o := .lst [.int 2]) n2
        have hp1 := ((Ex.refl (M := []) E4.gh).dat (o := .lst [.int 2]) n2).same _ _ (upd_same (o := .lst ((p.take i).map fun x => V.int (x : Nat))))
        repeat walk_at "rd3"
        refine catL hp1 upd_same (by simp; omega) fun p3 n3 => ?_
        have E6 := E5.dat (o := .lst (((p.take i).map fun x => V.int (x : Nat)) ++ [.int 2])) n3
        have h6 := E6.same _ _ eH1c
        repeat walk_at "rd3"
        refine slL h6 fun p4 n4 => ?_
        rw [show ((i : Int) + 1) = ((i + 1 : Nat) : Int) by omega, cut_from, ← List.map_drop]
        have E7 := E6.dat (o := .lst ((p.drop (i + 1)).map fun x => V.int (x : Nat))) n4
        have hp3 := ((Ex.refl (M := []) E6.gh).dat (o := .lst ((p.drop (i + 1)).map fun x => V.int (x : Nat))) n4).same _ _ (upd_same (o := .lst (((p.take i).map fun x => V.int (x : Nat)) ++ [.int 2])))
        repeat walk_at "rd3"
        refine catL hp3 upd_same (by simp; omega) fun p5 n5 => ?_
        have E8 := E7.dat (o := .lst ((((p.take i).map fun x => V.int (x : Nat)) ++ [.int 2]) ++ ((p.drop (i + 1)).map fun x => V.int (x : Nat)))) n5
        have es : p.set i 2 = (p.take i ++ [2]) ++ p.drop (i + 1) := by
          rw [List.set_eq_take_append_cons_drop, if_pos hi2]
          simp
        have d5 := Dat.newL (p := p5) (((DatA.nats (p.take i)).app (.cons (.int 2) .nil)).app (DatA.nats (p.drop (i + 1)))) (E7.gh.free n5)
        have ed : natsD (p.set i 2) = .list (((p.take i).map (fun x => PyData.int (x : Nat)) ++ [.int 2]) ++ (p.drop (i + 1)).map (fun x => PyData.int (x : Nat))) := by
          rw [es]
          simp [natsD]
        rw [← ed] at d5
        repeat walk_at "rd3"
        refine ⟨.ref p5, v2, ns, c, p.set i 2, row, _, rfl, E8.gh, hn, rp, l8, by rw [List.length_set]; exact lp, fun y hy => ?_, d5, (d2.up E3.gg).up E8.gg, fun G9 H9 b9 E9 hb9 => ?_⟩
        · rcases List.mem_or_eq_of_mem_set hy with h | h
          · exact hp2 y h
          · omega
        have E39 := E3.trans (E8.trans E9)
        repeat walk_at "rd3"
        refine ite2 (fun e3 => ?_) (fun e3 => ?_)
        · repeat walk_at "rd3"
          exact q G9 H9 false E39 ⟨fun z => absurd z (by decide), fun L => absurd (hb9.mp e3) (((lst_prs hn.nd lp).mp L).2 i x hz n2x)⟩
        · refine ⟨G9, _, rfl, E39, nxt fun _ k => e3 (hb9.mpr k)⟩
      · refine ⟨G', _, rfl, E3, nxt fun h => absurd ?_ e2⟩
        simp
        omega
    · obtain ⟨G', z, rfl, E3, no⟩ := hp
      repeat walk_at "rd3"
      refine q _ _ true E3 ⟨fun _ => (lst_prs hn.nd lp).mpr ⟨A0, fun j x hx n2 => no j x ?_ hx n2⟩, fun _ => rfl⟩
      have := (List.getElem?_eq_some_iff.mp hx).1
      omega
end
section
variable {P : Program} {w : World} {K : PySem.W.Frag} {mg : Str → Option Value} {base : Heap}
theorem tame_enc {ns : List Str} {c : C} (h : OC ns c) (hn : NS ns) : tame c.enc = true ∧ c.enc.depth < 13 := by
  refine ⟨?_, by have a := C.depth_le h; have b := hn.few; omega⟩
  have k : ∀ {ns : List Str} {c : C}, OC ns c → (∀ n ∈ ns, PyData.strOk n = true) → tame c.enc = true := fun {ns c} h => by
    induction h with
    | leaf v => intro _; rfl
    | @node x xs a b _ _ _ ha hb =>
      intro k
      show (true && (PyData.strOk x && (tame a.enc && (tame b.enc && true)))) = true
      rw [ha fun n m => k n (List.mem_cons_of_mem _ m), hb fun n m => k n (List.mem_cons_of_mem _ m), k x List.mem_cons_self]
      rfl
    | skip _ ih => exact fun k => ih fun n m => k n (List.mem_cons_of_mem _ m)
  exact k h fun n m => (hn.ok n m).1
theorem tame_strs {ss : List Str} (h : ∀ s ∈ ss, PyData.strOk s = true) (l : ss.length ≤ 1000) : tame (.tuple (ss.map PyData.str)) = true ∧ (PyData.tuple (ss.map PyData.str)).depth < 13 := by
  have k : ∀ ss : List Str, (∀ s ∈ ss, PyData.strOk s = true) → tame.tames (ss.map PyData.str) = true ∧ PyData.depthAll (ss.map PyData.str) = 0 := fun ss => by
    induction ss with
    | nil => exact fun _ => ⟨rfl, rfl⟩
    | cons x r ih =>
      intro h
      obtain ⟨i1, i2⟩ := ih fun s m => h s (List.mem_cons_of_mem _ m)
      refine ⟨?_, ?_⟩
      · show (PyData.strOk x && tame.tames (r.map PyData.str)) = true
        rw [h x List.mem_cons_self, i1]
        rfl
      · show max 0 (PyData.depthAll (r.map PyData.str)) = 0
        rw [i2]
        rfl
  obtain ⟨k1, k2⟩ := k ss h
  refine ⟨?_, ?_⟩
  · show (decide ((ss.map PyData.str).length ≤ 1000) && tame.tames (ss.map PyData.str)) = true
    rw [k1, decide_eq_true (by rw [List.length_map]; exact l)]
    rfl
  · show PyData.depthAll (ss.map PyData.str) + 1 < 13
    rw [k2]
    decide
theorem filter_pw {ns : List Str} {p : Str → Bool} (h : ns.Pairwise slt) : (ns.filter p).Pairwise slt := List.Pairwise.sublist List.filter_sublist h
def spAsked (K : PySem.W.Frag) : Sp := fun vs H Q _ => ∃ (h : Addr) (vn vset vc vr : V) (ns : List Str) (c : C) (row : List Bool) (G : Hp), vs = [.ref h, vn, vset, vc, vr] ∧ Same G H ∧ Hand G H h ∧ NS ns ∧ ns.length ≤ 5 ∧ Str.ofString "Q9" ∉ ns ∧ Dat G vn (strsD ns) ∧ Dat G vset (.list ((SL ns).map strsD)) ∧ Rep ns c row ∧ Dat G vc c.enc ∧ Dat G vr (rowD row) ∧
  ∀ G' H', Ex [h] G H G' H' → Hand G' H' h → Q (.bl true) H'
end
section
variable {P : Program} {w : World} {K : PySem.W.Frag} {mg : Str → Option Value} {base : Heap}
theorem tame_prD {ns : List Str} {l : Pt} (h : Sub ns l) (hn : NS ns) : tame (prD l) = true := by
  have k : ∀ m : Pt, (∀ r ∈ m, PyData.strOk r.1 = true) → tame.tames (m.map fun r => PyData.tuple [.str r.1, .bool r.2]) = true := fun m => by
    induction m with
    | nil => exact fun _ => rfl
    | cons r m ih =>
      intro h
      show ((decide (2 ≤ 1000) && (PyData.strOk r.1 && (true && true))) && tame.tames (m.map fun r => PyData.tuple [.str r.1, .bool r.2])) = true
      rw [ih fun q hq => h q (List.mem_cons_of_mem _ hq), h r List.mem_cons_self]
      rfl
  have ll := h.length_le
  rw [List.length_map] at ll
  have few := hn.few
  show (decide ((l.map fun r => PyData.tuple [.str r.1, .bool r.2]).length ≤ 1000) && tame.tames (l.map fun r => PyData.tuple [.str r.1, .bool r.2])) = true
  rw [k l fun r hr => (hn.ok r.1 (h.subset (List.mem_map.mpr ⟨r, hr, rfl⟩))).1, decide_eq_true (by rw [List.length_map]; omega)]
  rfl
theorem prD_depth3 (l : Pt) : (prD l).depth ≤ 6 := by
  have k : PyData.depthAll (l.map fun r => PyData.tuple [.str r.1, .bool r.2]) ≤ 5 := by
    induction l with
    | nil => exact Nat.zero_le _
    | cons r l ih => exact Nat.max_le.mpr ⟨by simp [PyData.depth, PyData.depthAll], ih⟩
  show PyData.depthAll _ + 1 ≤ 6
  omega
theorem tame_sorted {ns : List Str} {c : C} {ls : List Pt} (h : CL ns c ls) (hn : NS ns) (l5 : ns.length ≤ 5) : tame (.tuple (sortP ls)) = true ∧ (PyData.tuple (sortP ls)).depth < 13 := by
  have mem : ∀ d ∈ sortP ls, tame d = true ∧ d.depth ≤ 6 := fun d hd => by
    obtain ⟨l, hl, rfl⟩ := List.mem_map.mp ((List.mergeSort_perm _ _).mem_iff.mp hd)
    exact ⟨tame_prD ((h.mem l).mp hl).1 hn, prD_depth3 l⟩
  have len : (sortP ls).length ≤ 1000 := by
    have f := h.few
    have p : 3 ^ ns.length ≤ 3 ^ 5 := Nat.pow_le_pow_right (by decide) l5
    have p5 : 3 ^ 5 = 243 := by decide
    rw [List.length_mergeSort, List.length_map]
    omega
  generalize sortP ls = ds at mem len
  have k : ∀ ds : List PyData, (∀ d ∈ ds, tame d = true ∧ d.depth ≤ 6) → tame.tames ds = true ∧ PyData.depthAll ds ≤ 6 := fun ds => by
    induction ds with
    | nil => exact fun _ => ⟨rfl, Nat.zero_le _⟩
    | cons d ds ih =>
      intro h
      obtain ⟨i1, i2⟩ := ih fun q hq => h q (List.mem_cons_of_mem _ hq)
      obtain ⟨j1, j2⟩ := h d List.mem_cons_self
      refine ⟨?_, Nat.max_le.mpr ⟨j2, i2⟩⟩
      show (tame d && tame.tames ds) = true
      rw [i1, j1]
      rfl
  obtain ⟨k1, k2⟩ := k ds mem
  refine ⟨?_, ?_⟩
  · show (decide (ds.length ≤ 1000) && tame.tames ds) = true
    rw [k1, decide_eq_true len]
    rfl
  · show PyData.depthAll ds + 1 < 13
    omega
def spLaw (K : PySem.W.Frag) : Sp := fun vs H Q _ => ∃ (a : Addr) (ns : List Int), vs = [.ref a] ∧ SqL K H a (ns.map V.int) ∧ ns.length ≤ 63 ∧ ∀ H', Q (.bl true) H'
theorem ok_law (T : Tp K mg) : FnOk P w K mg base CX0 40 T.a_law T.d_law ["_law_script"] (spLaw K) := by
  have G_hand := ok_hand (P := P) (w := w) (base := base) T
  have G_take := ok_take (P := P) (w := w) (base := base) T
  have G_bits := ok_bits (P := P) (w := w) (base := base) T
  have G_switch_names := ok_switch_names (P := P) (w := w) (base := base) T
  have G_settings := ok_settings (P := P) (w := w) (base := base) T
  have G_alike := ok_alike (P := P) (w := w) (base := base) T 13
  have G_form := ok_form (P := P) (w := w) (base := base) T 13
  have G_openings := ok_openings (P := P) (w := w) (base := base) T
  have G_inside := ok_inside (P := P) (w := w) (base := base) T
  have G_is_least := ok_is_least (P := P) (w := w) (base := base) T
  have G_part_condition := ok_part_condition (P := P) (w := w) (base := base) T
  have G_least_causes := ok_least_causes (P := P) (w := w) (base := base) T
  refine T.F_law.ok sc_law (fun vs H Q E h => ?_) (fun cdv A outer s H vs Q E hr h => ?_)
  · obtain ⟨_, _, rfl, _⟩ := h; rfl
  obtain ⟨a, is, rfl, hS, hl, q⟩ := h
  have hu64 := hr.units
  refine ⟨_, (pss_cons (ps_set (i := 1) sc_law.nd rfl (Or.inl rfl) (pe_call G_hand (hr.mono (by omega)) (by rfl) T.g_hand T.F_hand.kp T.b_hand .nil pass0 (pa_cons (pv 0) pa_nil)))
  (pss_cons (ps_set (i := 2) sc_law.nd rfl (Or.inr rfl) (pe_call G_switch_names (hr.mono (by omega)) (by rfl) T.g_switch_names T.F_switch_names.kp T.b_switch_names .nil pass0 (pa_cons (pv 1) (pa_cons (pe_call G_take (hr.mono (by omega)) (by rfl) T.g_take T.F_take.kp T.b_take .nil pass0 (pa_cons (pv 1) (pa_cons pe_int pa_nil))) pa_nil))))
  (pss_cons (ps_set (i := 3) sc_law.nd rfl (Or.inl rfl) (pe_callB (call_lenK (K := K) rfl) (by rfl) T.z_len (by decide +kernel) (pa_cons (pe_call G_settings (hr.mono (by omega)) (by rfl) T.g_settings T.F_settings.kp T.b_settings .nil pass0 (pa_cons (pv 2) pa_nil)) pa_nil)))
  (pss_cons (ps_set (i := 4) sc_law.nd rfl (Or.inl rfl) (pe_call G_bits (hr.mono (by omega)) (by rfl) T.g_bits T.F_bits.kp T.b_bits .nil pass0 (pa_cons (pv 1) (pa_cons (pv 3) pa_nil))))
  (pss_cons (ps_set (i := 5) sc_law.nd rfl (Or.inl rfl) (pe_call G_form (hr.mono (by omega)) (by rfl) T.g_form T.F_form.kp T.b_form .nil pass0 (pa_cons (pv 2) (pa_cons (pv 4) pa_nil))))
  (pss_cons (ps_set (i := 6) sc_law.nd rfl (Or.inl rfl) (pe_lst pa_nil))
  (pss_cons (ps_for PassesOwn.never rfl (pi_listK (K := K) rfl (pe_call G_openings (hr.mono (by omega)) (by rfl) T.g_openings T.F_openings.kp T.b_openings .nil pass0 (pa_cons (pe_callB (call_lenK (K := K) rfl) (by rfl) T.z_len (by decide +kernel) (pa_cons (pv 2) pa_nil)) pa_nil))) (pg_name (i := 7) sc_law.nd rfl (Or.inr rfl))
  (pss_one (ps_if (pt_truthK (K := K) rfl (pe_call G_is_least (hr.mono (by omega)) (by rfl) T.g_is_least T.F_is_least.kp T.b_is_least .nil pass0 (pa_cons (pv 7) (pa_cons (pv 4) pa_nil))) (by intro _; rfl))
  (pss_cons (ps_set (i := 8) sc_law.nd rfl (Or.inl rfl) (pe_callTy (call_tuple_ofK (K := K) rfl) (by rfl) T.z_tuple (by decide +kernel) (pa_cons (pe_lc (own := [("_law_at", 9)]) rfl sc_law.nd (pi_range1 (by rfl) T.z_range (pa_cons (pe_callB (call_lenK (K := K) rfl) (by rfl) T.z_len (by decide +kernel) (pa_cons (pv 2) pa_nil)) pa_nil)) (blkOk_by (own := [("_law_at", 9)]) (N := ["_law_script", "_law_hand_here", "_law_names", "_law_many", "_law_row", "_law_condition", "_law_due", "_law_part", "_law_pairs", "_law_at"]) (sc := defScope s_law) (scope := { kind := PySem.ScopeKind.function, names := [ (PySem.Str.ofString ".0", PySem.NameKind.local), (PySem.Str.ofString "_law_at", PySem.NameKind.local), (PySem.Str.ofString "_law_names", PySem.NameKind.free), (PySem.Str.ofString "_law_part", PySem.NameKind.free)], isGenerator := false, isCoroutine := false, more := [] : PySem.Scope }) (by decide +kernel)) (fun _ _ _ _ _ => (pg_name (i := 9) sc_law.nd rfl (Or.inl rfl) (Or.inr rfl))) (fun _ _ _ _ _ => (pts_one (pt_cmpR (op_neDK (K := K) rfl hu64) (pe_ix (ix_seqK (K := K) rfl) (pv 7) (pv 9) (fun _ _ => rfl)) pe_int (nomark _)))) (fun _ _ _ _ _ => (pe_tup (pa_cons (pe_ix (ix_seqK (K := K) rfl) (pv 2) (pv 9) (fun _ _ => rfl)) (pa_cons (pe_cmpR (op_eqDK (K := K) rfl hu64) (pe_ix (ix_seqK (K := K) rfl) (pv 7) (pv 9) (fun _ _ => rfl)) pe_int (nomark _)) pa_nil))))) pa_nil)))
  (pss_cons (ps_expr (pe_bmK (K := K) rfl PySem.F.plainAttrs_list PySem.F.slot_list_append PySem.F.type_list_append mt_append (pv 6) (pa_cons (pv 8) pa_nil)))
  (pss_one (ps_if (pt_not (pt_truthK (K := K) rfl (pe_call G_alike (hr.mono (by omega)) (by rfl) T.g_alike T.F_alike.kp T.b_alike .nil pass0 (pa_cons (pe_call G_part_condition (hr.mono (by omega)) (by rfl) T.g_part_condition T.F_part_condition.kp T.b_part_condition .nil pass0 (pa_cons (pv 8) pa_nil)) (pa_cons (pe_call G_form (hr.mono (by omega)) (by rfl) T.g_form T.F_form.kp T.b_form .nil pass0 (pa_cons (pv 2) (pa_cons (pe_call G_inside (hr.mono (by omega)) (by rfl) T.g_inside T.F_inside.kp T.b_inside .nil pass0 (pa_cons (pv 7) pa_nil)) pa_nil))) pa_nil))) (by intro _; rfl)))
  (pss_one (ps_ret pe_bl))
  pss_nil))))
  pss_nil)))
  (pss_one (ps_ret (pe_call G_alike (hr.mono (by omega)) (by rfl) T.g_alike T.F_alike.kp T.b_alike .nil pass0 (pa_cons (pe_call G_least_causes (hr.mono (by omega)) (by rfl) T.g_least_causes T.F_least_causes.kp T.b_least_causes .nil pass0 (pa_cons (pv 5) pa_nil)) (pa_cons (pe_callTy (call_tuple_ofK (K := K) rfl) (by rfl) T.z_tuple (by decide +kernel) (pa_cons (pe_callB (cr_sortedDK (K := K) rfl hu64) (by rfl) T.z_sorted (by decide +kernel) (pa_cons (pv 6) pa_nil)) pa_nil)) pa_nil)))))))))))), ?_⟩
  repeat walk_at "rd3"
  refine ⟨a, is, fun _ => none, rfl, hS, hl, (fun b o e => nomatch e), fun G1 H1 h E0 h1 => ?_⟩
  repeat walk_at "rd3"
  refine ⟨h, 6, G1, rfl, E0.gh, h1, by omega, by omega, fun G2 H2 r E2 h2 r0 r1 => ?_⟩
  repeat walk_at "rd3"
  refine ⟨h, r.toNat, G2, by rw [show ((r.toNat : Nat) : Int) = r by omega]; rfl, E2.gh, h2, by omega, fun G3 H3 vn ns E3 h3 hn lns nq dn => ?_⟩
  have n5 : ns.length ≤ 5 := by omega
  have pf : 2 ^ ns.length ≤ 2 ^ 5 := Nat.pow_le_pow_right (by decide) n5
  have p5 : (2 : Nat) ^ 5 = 32 := by decide
  have pt : 3 ^ ns.length ≤ 3 ^ 5 := Nat.pow_le_pow_right (by decide) n5
  have pt5 : (3 : Nat) ^ 5 = 243 := by decide
  have pw := Nat.two_pow_pos ns.length
  clear lns r0 r1
  repeat walk_at "rd3"
  refine ⟨vn, ns, G3, rfl, E3.gh, by omega, dn, fun G4 H4 vset E4 ds => ?_⟩
  obtain ⟨bs_, wset, rfl, eset, dset⟩ := ds.list_inv
  have lset := dset.len
  rw [List.length_map, SL_len] at lset
  have eHset := E4.gh _ _ eset
  have h4 := h3.pure E4
  repeat walk_at "rd3"
  rw [lset]
  refine ⟨h, ((2 ^ ns.length : Nat) : Int), G4, rfl, E4.gh, h4, by omega, by omega, fun G5 H5 vr row E5 h5 lrow drow => ?_⟩
  have tnat : ((2 ^ ns.length : Nat) : Int).toNat = 2 ^ ns.length := by omega
  rw [tnat] at lrow
  have dn5 := (dn.up E4.gg).up E5.gg
  repeat walk_at "rd3"
  refine ⟨vn, vr, ns, row, G5, rfl, E5.gh, hn, lrow, by omega, dn5, drow, fun G6 H6 vc c E6 rp dc => ?_⟩
  have dn6 := dn5.up E6.gg
  have dr6 := drow.up E6.gg
  obtain ⟨an, xn, rfl, en, dan⟩ := dn6.list_inv
  have zn := dan.strs_inv
  subst zn
  have eHn := E6.gh _ _ en
  have lnn : (ns.map V.str).length = ns.length := List.length_map _
  repeat walk_at "rd3"
  refine ⟨line_le (Nat.zero_le _), fun D nD => ?_⟩
  have gD : G6 D = none := E6.gh.free nD
  have E7 : Ex [D] G6 H6 G6 (upd H6 D (.lst [])) := (Ex.refl E6.gh).new nD
  have eHn7 := E7.at_ eHn (by simpa using ne_of_none eHn nD)
  repeat walk_at "rd3"
  rw [lnn]
  refine ⟨ns.length, G6, rfl, E7.gh, by omega, fun G8 H8 vo E8 dop => ?_⟩
  obtain ⟨b, wo, rfl, eb, db⟩ := dop.list_inv
  have lw := db.len
  rw [List.length_map, op_len] at lw
  have eHb := E8.gh _ _ eb
  have hD8 := E8.at_ (upd_same (H := H6) (a := D) (o := .lst [])) (fun z => nomatch z)
  have gD8 := E8.out gD upd_same
  have bD : b ≠ D := fun z => by rw [z, gD8] at eb; cases eb
  repeat walk_at "rd3"
  refine ⟨⟨_, SqL.of eHb⟩, ?_⟩
  have dn8 := dn6.up E8.gg
  have dr8 := dr6.up E8.gg
  have dc8 := dc.up E8.gg
  have eHn8 := E8.same _ _ eHn7
  have anD : an ≠ D := ne_of_none eHn nD
  refine for_go (walk_list (xs := wo)) (fun i σ H' => ∃ (G' : Hp) (us : List V) (z7 z8 z9 : Option V), σ = [some (.ref a), some (.ref h), some (.ref an), some (.int (2 ^ ns.length : Nat)), some vr, some vc, some (.ref D), z7, z8, z9] ∧ Ex [D] G8 H8 G' H' ∧ G' D = none ∧ H' D = some (.lst us) ∧ DatA G' us (((((OP ns.length).take i).filter (lstB ns c)).map (prs ns)).map prD))
    ⟨G8, [], none, none, none, ?_, Ex.refl E8.gh, gD8, hD8, .nil⟩ (fun i σ H' hi hp => ?_) (fun i σ H' hi hp => ?_) (fun σ H' hp => ?_)
  · rfl
  · obtain ⟨G', us, z7, z8, z9, rfl, F, gF, hF, dF⟩ := hp
    exact F.at_ eHb (by simpa using bD)
  · obtain ⟨G', us, z7, z8, z9, rfl, F, gF, hF, dF⟩ := hp
    have hi2 : i < (OP ns.length).length := by rw [op_len]; omega
    have hg : ((OP ns.length).map natsD)[i]? = some (natsD (OP ns.length)[i]) := by rw [List.getElem?_map, List.getElem?_eq_getElem hi2]; rfl
    obtain ⟨u, gu, du⟩ := db.get hg
    have nu : nth wo i = u := Option.some.inj ((nth_at hi).symm.trans gu)
    rw [nu]
    have hpm := op_mem.mp (List.getElem_mem hi2)
    have fs := filter_snoc (p := lstB ns c) hi2
    generalize (OP ns.length)[i] = p at *
    obtain ⟨hlp, hp2⟩ := hpm
    have du' := du.up F.gg
    obtain ⟨ap, xp, rfl, ep, dap⟩ := du'.list_inv
    have zp := dap.nats_inv
    subst zp
    have lpp : (p.map fun x => V.int (x : Nat)).length = p.length := List.length_map _
    have lus : us.length ≤ 1000 := by
      have z := dF.len
      have z1 := List.length_filter_le (lstB ns c) ((OP ns.length).take i)
      have z2 := List.length_take_le i (OP ns.length)
      rw [List.length_map, List.length_map] at z
      omega
    repeat walk_at "rd3"
    refine ⟨.ref ap, vr, ns, c, p, row, G', rfl, F.gh, hn, rp, by omega, hlp, hp2, du', dr8.up F.gg, fun G9 H9 b9 E9 hb9 => ?_⟩
    have ep9 := E9.same _ _ (F.gh _ _ ep)
    have en9 := E9.same _ _ (F.at_ eHn8 (by simpa using anD))
    have eD9 := E9.at_ hF (fun z => nomatch z)
    have gD9 := E9.out gF hF
    repeat walk_at "rd3"
    refine ite2 (fun e => ?_) (fun e => ?_)
    · have L := hb9.mp e
      rw [if_pos (lstB_iff.mpr L)] at fs
      repeat walk_at "rd3"
      rw [lnn]
      refine comp_goD (M := []) (fun k acc G' H' => acc = (prs (ns.take k) (p.take k)).map fun r => PyData.tuple [.str r.1, .bool r.2]) walk_range E9.gh (line_lt (by omega)) (fun m hm => nomatch hm) (fun _ _ _ => trivial) rfl (fun i acc G' H' D o hp n1 n2 => hp) (fun i acc G' H' D o hp n1 n2 => hp)
        (fun k acc G10 H10 hk E10 hp C C' hC hC' => ?_) (fun G10 H10 DD acc E10 dr hacc hp => ?_)
      · have hk2 : k < ns.length := by omega
        have hzn := List.getElem?_eq_getElem hk2
        have hzp := List.getElem?_eq_getElem (show k < p.length by omega)
        have sn := prs_snoc hzn hzp
        have tk : (0 + (k : Int)).toNat = k := by omega
        generalize ns[k] = sk at *
        generalize p[k] = xk at *
        have ep10 := E10.same _ _ ep9
        have en10 := E10.same _ _ en9
        refine ⟨rfl, ?_⟩
        repeat walk_at "rd3"
        refine ixL ep10 (by omega) (by rw [tk, List.getElem?_map, hzp]; rfl) ?_
        repeat walk_at "rd3"
        refine ite2 (fun e2 => ?_) (fun e2 => ?_)
        · have n2x : xk ≠ 2 := fun z => by
            rw [z] at e2
            exact absurd e2 (by decide)
          repeat walk_at "rd3"
          refine ixL en10 (by omega) (by rw [tk, List.getElem?_map, hzn]; rfl) ?_
          repeat walk_at "rd3"
          refine ixL ep10 (by omega) (by rw [tk, List.getElem?_map, hzp]; rfl) ?_
          repeat walk_at "rd3"
          refine ⟨line_le (by show 2 ≤ _; decide), fun p9 n9 => ?_⟩
          have ev : (((xk : Nat) : Int) == 1) = (xk == 1) := by
            rw [Bool.eq_iff_iff]
            simp
            try omega
          rw [ev]
          refine hC _ _ _ (.tuple [.str sk, .bool (xk == 1)]) ((Ex.refl E10.gh).dat n9) (Dat.newT (.cons (.str _) (.cons (.bl _) .nil)) (E10.gh.free n9)) ?_
          rw [hp, sn, if_neg n2x, List.map_append]
          rfl
        · have e2x : xk = 2 := Classical.byContradiction fun z => e2 (by simp; omega)
          refine hC' G10 H10 (Ex.refl E10.gh) ?_
          rw [hp, sn, if_pos e2x, List.append_nil]
      · rw [prs_all (by omega) (by omega)] at hp
        subst hp
        obtain ⟨D3, xx, er, e10, da10⟩ := dr.list_inv
        cases er
        repeat walk_at "rd3"
        refine ⟨DD, xx, rfl, .inl ⟨SqL.of (E10.gh _ _ e10), fun p11 n11 => ?_⟩⟩
        have E11 := E10.dat (o := .tup xx) n11
        have dpr : Dat _ (.ref p11) (prD (prs ns p)) := Dat.newT (p := p11) da10 (E10.gh.free n11)
        have eD11 := E11.at_ eD9 (fun z => nomatch z)
        have gD11 := E11.out gD9 eD9
        have EE := (F.pure E9).pure E11
        have EW := EE.wr (o := .lst (us ++ [.ref p11])) gD11 (.inl (by simp))
        repeat walk_at "rd3"
        refine appL eD11 (line_lt (by omega)) ?_
        repeat walk_at "rd3"
        refine ⟨.ref p11, prs ns p, ns, _, rfl, EW.gh, hn, prs_sub ns p, dpr, fun G13 H13 r13 E13 k13 => ?_⟩
        repeat walk_at "rd3"
        refine ⟨.ref ap, p, G13, rfl, E13.gh, by omega, ((du'.up E9.gg).up E11.gg).up E13.gg, fun G14 H14 r14 E14 k14 => ?_⟩
        have en14 := ((((dn8.up F.gg).up E9.gg).up E11.gg).up E13.gg).up E14.gg
        repeat walk_at "rd3"
        refine ⟨.ref an, r14, ns, ins p, G14, rfl, E14.gh, hn, by rw [ins_len, hlp], by omega, en14, k14, fun G15 H15 r15 c15 E15 rp15 k15 => ?_⟩
        have ec := Rep.uniq hn.nd rp15 (rep_ins hn.nd hlp hp2)
        subst ec
        have tm := tame_enc rp15.oc hn
        repeat walk_at "rd3"
        refine ⟨r13, r15, _, G15, rfl, E15.gh, (k13.up E14.gg).up E15.gg, k15, tm.1, tm.2, fun G16 H16 E16 => ?_⟩
        have EZ := E13.trans (E14.trans (E15.trans E16))
        have eD16 := EZ.at_ (upd_same (a := D) (o := .lst (us ++ [.ref p11]))) (fun z => nomatch z)
        have gD16 := EZ.out gD11 upd_same
        repeat walk_at "rd3"
        refine ⟨G16, us ++ [.ref p11], _, _, _, rfl, EW.pure EZ, gD16, eD16, ?_⟩
        rw [fs, List.map_append, List.map_append]
        exact (((dF.up E9.gg).up E11.gg).app (.cons dpr .nil)).up EZ.gg
    · rw [if_neg (fun z => e (hb9.mpr (lstB_iff.mp z))), List.append_nil] at fs
      refine ⟨G9, us, _, _, _, rfl, F.pure E9, gD9, eD9, ?_⟩
      rw [fs]
      exact dF.up E9.gg
  · obtain ⟨G', us, z7, z8, z9, rfl, F, gF, hF, dF⟩ := hp
    rw [List.take_of_length_le (by rw [op_len]; omega)] at dF
    repeat walk_at "rd3"
    refine ⟨vc, ns, c, G', rfl, F.gh, hn, rp.oc, by omega, dc8.up F.gg, fun G9 H9 r9 ls E9 cl d9 => ?_⟩
    have dp := due_perm (g := lstB ns c) hn.nd cl fun p _ => lstB_iff
    have clen := dp.length_eq
    repeat walk_at "rd3"
    refine ⟨G9, D, us, _, rfl, E9.at_ hF (fun z => nomatch z), E9.gh, dF.up E9.gg, prD_all _, fun h2 => prD_sortable fun l hl => cl.more (by rw [← clen]; simpa using h2) l (dp.mem_iff.mp hl), fun d hd => ?_, fun ws p dw np => ?_⟩
    · obtain ⟨l, _, rfl⟩ := List.mem_map.mp hd
      exact prD_depth l
    have E10 := (Ex.refl (M := []) E9.gh).new (o := .lst ws) np
    repeat walk_at "rd3"
    refine ⟨p, ws, rfl, .inl ⟨SqL.of upd_same, fun p2 n2 => ?_⟩⟩
    have E11 := E10.dat (o := .tup ws) n2
    have d11 := Dat.newT (p := p2) dw (E10.gh.free n2)
    rw [prD_sorted dp] at d11
    have tm := tame_sorted cl hn n5
    repeat walk_at "rd3"
    refine ⟨r9, .ref p2, .tuple (sortP ls), _, rfl, E11.gh, d9.up E11.gg, d11, tm.1, tm.2, fun G12 H12 E12 => ?_⟩
    exact q _
end
section
theorem tp_mk {K : PySem.W.Frag} {h : Heap} {mg : Str → Option Value} {fa : Addr} (X : K.In h) (G : h.Ns mainGlobals mg) (hfa : mg "law" = some (.ref fa))
    {f0 : Addr} {od0 an0 : Option Addr} {sl0 : Array (Option Value)} {oc0 kV0 dc0 pm0 cd0 ct0 : Value}
    (a0 : PySem.W.nsIn K mainGlobals "formed" = some (some (.ref f0))) (l0 : K.lookup f0 = some ⟨oc0, od0, .func (PySem.W.fnOf "formed" "formed" (defArgs s_formed) (defBody s_formed) (defScope s_formed) .none kV0 dc0 pm0 an0 cd0 ct0), sl0⟩) (c0 : PySem.W.codeIn K cd0 "formed" = true) (k0 : PySem.W.keepIn K (.ref f0) = true)
    {f1 : Addr} {od1 an1 : Option Addr} {sl1 : Array (Option Value)} {oc1 kV1 dc1 pm1 cd1 ct1 : Value}
    (a1 : PySem.W.nsIn K mainGlobals "side_of" = some (some (.ref f1))) (l1 : K.lookup f1 = some ⟨oc1, od1, .func (PySem.W.fnOf "side_of" "side_of" (defArgs s_side_of) (defBody s_side_of) (defScope s_side_of) .none kV1 dc1 pm1 an1 cd1 ct1), sl1⟩) (c1 : PySem.W.codeIn K cd1 "side_of" = true) (k1 : PySem.W.keepIn K (.ref f1) = true)
    {f2 : Addr} {od2 an2 : Option Addr} {sl2 : Array (Option Value)} {oc2 kV2 dc2 pm2 cd2 ct2 : Value}
    (a2 : PySem.W.nsIn K mainGlobals "no" = some (some (.ref f2))) (l2 : K.lookup f2 = some ⟨oc2, od2, .func (PySem.W.fnOf "no" "no" (defArgs s_no) (defBody s_no) (defScope s_no) .none kV2 dc2 pm2 an2 cd2 ct2), sl2⟩) (c2 : PySem.W.codeIn K cd2 "no" = true) (k2 : PySem.W.keepIn K (.ref f2) = true)
    {f3 : Addr} {od3 an3 : Option Addr} {sl3 : Array (Option Value)} {oc3 kV3 dc3 pm3 cd3 ct3 : Value}
    (a3 : PySem.W.nsIn K mainGlobals "both" = some (some (.ref f3))) (l3 : K.lookup f3 = some ⟨oc3, od3, .func (PySem.W.fnOf "both" "both" (defArgs s_both) (defBody s_both) (defScope s_both) .none kV3 dc3 pm3 an3 cd3 ct3), sl3⟩) (c3 : PySem.W.codeIn K cd3 "both" = true) (k3 : PySem.W.keepIn K (.ref f3) = true)
    {f4 : Addr} {od4 an4 : Option Addr} {sl4 : Array (Option Value)} {oc4 kV4 dc4 pm4 cd4 ct4 : Value}
    (a4 : PySem.W.nsIn K mainGlobals "but_not" = some (some (.ref f4))) (l4 : K.lookup f4 = some ⟨oc4, od4, .func (PySem.W.fnOf "but_not" "but_not" (defArgs s_but_not) (defBody s_but_not) (defScope s_but_not) .none kV4 dc4 pm4 an4 cd4 ct4), sl4⟩) (c4 : PySem.W.codeIn K cd4 "but_not" = true) (k4 : PySem.W.keepIn K (.ref f4) = true)
    {f5 : Addr} {od5 an5 : Option Addr} {sl5 : Array (Option Value)} {oc5 kV5 dc5 pm5 cd5 ct5 : Value}
    (a5 : PySem.W.nsIn K mainGlobals "implies" = some (some (.ref f5))) (l5 : K.lookup f5 = some ⟨oc5, od5, .func (PySem.W.fnOf "implies" "implies" (defArgs s_implies) (defBody s_implies) (defScope s_implies) .none kV5 dc5 pm5 an5 cd5 ct5), sl5⟩) (c5 : PySem.W.codeIn K cd5 "implies" = true) (k5 : PySem.W.keepIn K (.ref f5) = true)
    {f6 : Addr} {od6 an6 : Option Addr} {sl6 : Array (Option Value)} {oc6 kV6 dc6 pm6 cd6 ct6 : Value}
    (a6 : PySem.W.nsIn K mainGlobals "part_condition" = some (some (.ref f6))) (l6 : K.lookup f6 = some ⟨oc6, od6, .func (PySem.W.fnOf "part_condition" "part_condition" (defArgs s_part_condition) (defBody s_part_condition) (defScope s_part_condition) .none kV6 dc6 pm6 an6 cd6 ct6), sl6⟩) (c6 : PySem.W.codeIn K cd6 "part_condition" = true) (k6 : PySem.W.keepIn K (.ref f6) = true)
    {f7 : Addr} {od7 an7 : Option Addr} {sl7 : Array (Option Value)} {oc7 kV7 dc7 pm7 cd7 ct7 : Value}
    (a7 : PySem.W.nsIn K mainGlobals "cause_list" = some (some (.ref f7))) (l7 : K.lookup f7 = some ⟨oc7, od7, .func (PySem.W.fnOf "cause_list" "cause_list" (defArgs s_cause_list) (defBody s_cause_list) (defScope s_cause_list) .none kV7 dc7 pm7 an7 cd7 ct7), sl7⟩) (c7 : PySem.W.codeIn K cd7 "cause_list" = true) (k7 : PySem.W.keepIn K (.ref f7) = true)
    {f8 : Addr} {od8 an8 : Option Addr} {sl8 : Array (Option Value)} {oc8 kV8 dc8 pm8 cd8 ct8 : Value}
    (a8 : PySem.W.nsIn K mainGlobals "least_causes" = some (some (.ref f8))) (l8 : K.lookup f8 = some ⟨oc8, od8, .func (PySem.W.fnOf "least_causes" "least_causes" (defArgs s_least_causes) (defBody s_least_causes) (defScope s_least_causes) .none kV8 dc8 pm8 an8 cd8 ct8), sl8⟩) (c8 : PySem.W.codeIn K cd8 "least_causes" = true) (k8 : PySem.W.keepIn K (.ref f8) = true)
    {f9 : Addr} {od9 an9 : Option Addr} {sl9 : Array (Option Value)} {oc9 kV9 dc9 pm9 cd9 ct9 : Value}
    (a9 : PySem.W.nsIn K mainGlobals "_law_hand" = some (some (.ref f9))) (l9 : K.lookup f9 = some ⟨oc9, od9, .func (PySem.W.fnOf "_law_hand" "_law_hand" (defArgs s_hand) (defBody s_hand) (defScope s_hand) .none kV9 dc9 pm9 an9 cd9 ct9), sl9⟩) (c9 : PySem.W.codeIn K cd9 "_law_hand" = true) (k9 : PySem.W.keepIn K (.ref f9) = true)
    {f10 : Addr} {od10 an10 : Option Addr} {sl10 : Array (Option Value)} {oc10 kV10 dc10 pm10 cd10 ct10 : Value}
    (a10 : PySem.W.nsIn K mainGlobals "_law_stirred" = some (some (.ref f10))) (l10 : K.lookup f10 = some ⟨oc10, od10, .func (PySem.W.fnOf "_law_stirred" "_law_stirred" (defArgs s_stirred) (defBody s_stirred) (defScope s_stirred) .none kV10 dc10 pm10 an10 cd10 ct10), sl10⟩) (c10 : PySem.W.codeIn K cd10 "_law_stirred" = true) (k10 : PySem.W.keepIn K (.ref f10) = true)
    {f11 : Addr} {od11 an11 : Option Addr} {sl11 : Array (Option Value)} {oc11 kV11 dc11 pm11 cd11 ct11 : Value}
    (a11 : PySem.W.nsIn K mainGlobals "_law_take" = some (some (.ref f11))) (l11 : K.lookup f11 = some ⟨oc11, od11, .func (PySem.W.fnOf "_law_take" "_law_take" (defArgs s_take) (defBody s_take) (defScope s_take) .none kV11 dc11 pm11 an11 cd11 ct11), sl11⟩) (c11 : PySem.W.codeIn K cd11 "_law_take" = true) (k11 : PySem.W.keepIn K (.ref f11) = true)
    {f12 : Addr} {od12 an12 : Option Addr} {sl12 : Array (Option Value)} {oc12 kV12 dc12 pm12 cd12 ct12 : Value}
    (a12 : PySem.W.nsIn K mainGlobals "_law_switch_names" = some (some (.ref f12))) (l12 : K.lookup f12 = some ⟨oc12, od12, .func (PySem.W.fnOf "_law_switch_names" "_law_switch_names" (defArgs s_switch_names) (defBody s_switch_names) (defScope s_switch_names) .none kV12 dc12 pm12 an12 cd12 ct12), sl12⟩) (c12 : PySem.W.codeIn K cd12 "_law_switch_names" = true) (k12 : PySem.W.keepIn K (.ref f12) = true)
    {f13 : Addr} {od13 an13 : Option Addr} {sl13 : Array (Option Value)} {oc13 kV13 dc13 pm13 cd13 ct13 : Value}
    (a13 : PySem.W.nsIn K mainGlobals "_law_settings" = some (some (.ref f13))) (l13 : K.lookup f13 = some ⟨oc13, od13, .func (PySem.W.fnOf "_law_settings" "_law_settings" (defArgs s_settings) (defBody s_settings) (defScope s_settings) .none kV13 dc13 pm13 an13 cd13 ct13), sl13⟩) (c13 : PySem.W.codeIn K cd13 "_law_settings" = true) (k13 : PySem.W.keepIn K (.ref f13) = true)
    {f14 : Addr} {od14 an14 : Option Addr} {sl14 : Array (Option Value)} {oc14 kV14 dc14 pm14 cd14 ct14 : Value}
    (a14 : PySem.W.nsIn K mainGlobals "_law_bits" = some (some (.ref f14))) (l14 : K.lookup f14 = some ⟨oc14, od14, .func (PySem.W.fnOf "_law_bits" "_law_bits" (defArgs s_bits) (defBody s_bits) (defScope s_bits) .none kV14 dc14 pm14 an14 cd14 ct14), sl14⟩) (c14 : PySem.W.codeIn K cd14 "_law_bits" = true) (k14 : PySem.W.keepIn K (.ref f14) = true)
    {f15 : Addr} {od15 an15 : Option Addr} {sl15 : Array (Option Value)} {oc15 kV15 dc15 pm15 cd15 ct15 : Value}
    (a15 : PySem.W.nsIn K mainGlobals "_law_form" = some (some (.ref f15))) (l15 : K.lookup f15 = some ⟨oc15, od15, .func (PySem.W.fnOf "_law_form" "_law_form" (defArgs s_form) (defBody s_form) (defScope s_form) .none kV15 dc15 pm15 an15 cd15 ct15), sl15⟩) (c15 : PySem.W.codeIn K cd15 "_law_form" = true) (k15 : PySem.W.keepIn K (.ref f15) = true)
    {f16 : Addr} {od16 an16 : Option Addr} {sl16 : Array (Option Value)} {oc16 kV16 dc16 pm16 cd16 ct16 : Value}
    (a16 : PySem.W.nsIn K mainGlobals "_law_openings" = some (some (.ref f16))) (l16 : K.lookup f16 = some ⟨oc16, od16, .func (PySem.W.fnOf "_law_openings" "_law_openings" (defArgs s_openings) (defBody s_openings) (defScope s_openings) .none kV16 dc16 pm16 an16 cd16 ct16), sl16⟩) (c16 : PySem.W.codeIn K cd16 "_law_openings" = true) (k16 : PySem.W.keepIn K (.ref f16) = true)
    {f17 : Addr} {od17 an17 : Option Addr} {sl17 : Array (Option Value)} {oc17 kV17 dc17 pm17 cd17 ct17 : Value}
    (a17 : PySem.W.nsIn K mainGlobals "_law_inside" = some (some (.ref f17))) (l17 : K.lookup f17 = some ⟨oc17, od17, .func (PySem.W.fnOf "_law_inside" "_law_inside" (defArgs s_inside) (defBody s_inside) (defScope s_inside) .none kV17 dc17 pm17 an17 cd17 ct17), sl17⟩) (c17 : PySem.W.codeIn K cd17 "_law_inside" = true) (k17 : PySem.W.keepIn K (.ref f17) = true)
    {f18 : Addr} {od18 an18 : Option Addr} {sl18 : Array (Option Value)} {oc18 kV18 dc18 pm18 cd18 ct18 : Value}
    (a18 : PySem.W.nsIn K mainGlobals "_law_always" = some (some (.ref f18))) (l18 : K.lookup f18 = some ⟨oc18, od18, .func (PySem.W.fnOf "_law_always" "_law_always" (defArgs s_always) (defBody s_always) (defScope s_always) .none kV18 dc18 pm18 an18 cd18 ct18), sl18⟩) (c18 : PySem.W.codeIn K cd18 "_law_always" = true) (k18 : PySem.W.keepIn K (.ref f18) = true)
    {f19 : Addr} {od19 an19 : Option Addr} {sl19 : Array (Option Value)} {oc19 kV19 dc19 pm19 cd19 ct19 : Value}
    (a19 : PySem.W.nsIn K mainGlobals "_law_is_least" = some (some (.ref f19))) (l19 : K.lookup f19 = some ⟨oc19, od19, .func (PySem.W.fnOf "_law_is_least" "_law_is_least" (defArgs s_is_least) (defBody s_is_least) (defScope s_is_least) .none kV19 dc19 pm19 an19 cd19 ct19), sl19⟩) (c19 : PySem.W.codeIn K cd19 "_law_is_least" = true) (k19 : PySem.W.keepIn K (.ref f19) = true)
    {f20 : Addr} {od20 an20 : Option Addr} {sl20 : Array (Option Value)} {oc20 kV20 dc20 pm20 cd20 ct20 : Value}
    (a20 : PySem.W.nsIn K mainGlobals "_law_whole" = some (some (.ref f20))) (l20 : K.lookup f20 = some ⟨oc20, od20, .func (PySem.W.fnOf "_law_whole" "_law_whole" (defArgs s_whole) (defBody s_whole) (defScope s_whole) .none kV20 dc20 pm20 an20 cd20 ct20), sl20⟩) (c20 : PySem.W.codeIn K cd20 "_law_whole" = true) (k20 : PySem.W.keepIn K (.ref f20) = true)
    {f21 : Addr} {od21 an21 : Option Addr} {sl21 : Array (Option Value)} {oc21 kV21 dc21 pm21 cd21 ct21 : Value}
    (a21 : PySem.W.nsIn K mainGlobals "_law_alike" = some (some (.ref f21))) (l21 : K.lookup f21 = some ⟨oc21, od21, .func (PySem.W.fnOf "_law_alike" "_law_alike" (defArgs s_alike) (defBody s_alike) (defScope s_alike) .none kV21 dc21 pm21 an21 cd21 ct21), sl21⟩) (c21 : PySem.W.codeIn K cd21 "_law_alike" = true) (k21 : PySem.W.keepIn K (.ref f21) = true)
    {f22 : Addr} {od22 an22 : Option Addr} {sl22 : Array (Option Value)} {oc22 kV22 dc22 pm22 cd22 ct22 : Value}
    (a22 : PySem.W.nsIn K mainGlobals "law" = some (some (.ref f22))) (l22 : K.lookup f22 = some ⟨oc22, od22, .func (PySem.W.fnOf "law" "law" (defArgs s_law) (defBody s_law) (defScope s_law) .none kV22 dc22 pm22 an22 cd22 ct22), sl22⟩) (c22 : PySem.W.codeIn K cd22 "law" = true) (k22 : PySem.W.keepIn K (.ref f22) = true)
    (z_abs : PySem.W.nsIn K mainGlobals "abs" = some none)
    (z_bool : PySem.W.nsIn K mainGlobals "bool" = some none)
    (z_int : PySem.W.nsIn K mainGlobals "int" = some none)
    (z_isinstance : PySem.W.nsIn K mainGlobals "isinstance" = some none)
    (z_len : PySem.W.nsIn K mainGlobals "len" = some none)
    (z_min : PySem.W.nsIn K mainGlobals "min" = some none)
    (z_range : PySem.W.nsIn K mainGlobals "range" = some none)
    (z_reversed : PySem.W.nsIn K mainGlobals "reversed" = some none)
    (z_sorted : PySem.W.nsIn K mainGlobals "sorted" = some none)
    (z_str : PySem.W.nsIn K mainGlobals "str" = some none)
    (z_tuple : PySem.W.nsIn K mainGlobals "tuple" = some none)
    : ∃ T : Tp K mg, T.a_law = fa ∧ ∀ (s : Shared) (v : Value), BindsTo s T.d_law ⟨[v], []⟩ [("_law_script", v)] := by
  have e := hfa.symm.trans (PySem.W.mg_of X G a22)
  cases e
  have F0 := fun_mk (st := s_formed) l0 c0 k0
  have b0 := F0.binds (ps := ["switch", "on", "off"]) fun _ _ _ _ _ _ us hl => match us, hl with | [_, _, _], _ => rfl
  have F1 := fun_mk (st := s_side_of) l1 c1 k1
  have b1 := F1.binds (ps := ["condition", "switch", "on"]) fun _ _ _ _ _ _ us hl => match us, hl with | [_, _, _], _ => rfl
  have F2 := fun_mk (st := s_no) l2 c2 k2
  have b2 := F2.binds (ps := ["condition"]) fun _ _ _ _ _ _ us hl => match us, hl with | [_], _ => rfl
  have F3 := fun_mk (st := s_both) l3 c3 k3
  have b3 := F3.binds (ps := ["condition", "other"]) fun _ _ _ _ _ _ us hl => match us, hl with | [_, _], _ => rfl
  have F4 := fun_mk (st := s_but_not) l4 c4 k4
  have b4 := F4.binds (ps := ["condition", "other"]) fun _ _ _ _ _ _ us hl => match us, hl with | [_, _], _ => rfl
  have F5 := fun_mk (st := s_implies) l5 c5 k5
  have b5 := F5.binds (ps := ["condition", "other"]) fun _ _ _ _ _ _ us hl => match us, hl with | [_, _], _ => rfl
  have F6 := fun_mk (st := s_part_condition) l6 c6 k6
  have b6 := F6.binds (ps := ["part"]) fun _ _ _ _ _ _ us hl => match us, hl with | [_], _ => rfl
  have F7 := fun_mk (st := s_cause_list) l7 c7 k7
  have b7 := F7.binds (ps := ["condition"]) fun _ _ _ _ _ _ us hl => match us, hl with | [_], _ => rfl
  have F8 := fun_mk (st := s_least_causes) l8 c8 k8
  have b8 := F8.binds (ps := ["condition"]) fun _ _ _ _ _ _ us hl => match us, hl with | [_], _ => rfl
  have F9 := fun_mk (st := s_hand) l9 c9 k9
  have b9 := F9.binds (ps := ["_law_script"]) fun _ _ _ _ _ _ us hl => match us, hl with | [_], _ => rfl
  have F10 := fun_mk (st := s_stirred) l10 c10 k10
  have b10 := F10.binds (ps := ["_law_number", "_law_turn"]) fun _ _ _ _ _ _ us hl => match us, hl with | [_, _], _ => rfl
  have F11 := fun_mk (st := s_take) l11 c11 k11
  have b11 := F11.binds (ps := ["_law_hand_here", "_law_many"]) fun _ _ _ _ _ _ us hl => match us, hl with | [_, _], _ => rfl
  have F12 := fun_mk (st := s_switch_names) l12 c12 k12
  have b12 := F12.binds (ps := ["_law_hand_here", "_law_many"]) fun _ _ _ _ _ _ us hl => match us, hl with | [_, _], _ => rfl
  have F13 := fun_mk (st := s_settings) l13 c13 k13
  have b13 := F13.binds (ps := ["_law_names"]) fun _ _ _ _ _ _ us hl => match us, hl with | [_], _ => rfl
  have F14 := fun_mk (st := s_bits) l14 c14 k14
  have b14 := F14.binds (ps := ["_law_hand_here", "_law_many"]) fun _ _ _ _ _ _ us hl => match us, hl with | [_, _], _ => rfl
  have F15 := fun_mk (st := s_form) l15 c15 k15
  have b15 := F15.binds (ps := ["_law_names", "_law_bits_here"]) fun _ _ _ _ _ _ us hl => match us, hl with | [_, _], _ => rfl
  have F16 := fun_mk (st := s_openings) l16 c16 k16
  have b16 := F16.binds (ps := ["_law_many"]) fun _ _ _ _ _ _ us hl => match us, hl with | [_], _ => rfl
  have F17 := fun_mk (st := s_inside) l17 c17 k17
  have b17 := F17.binds (ps := ["_law_part"]) fun _ _ _ _ _ _ us hl => match us, hl with | [_], _ => rfl
  have F18 := fun_mk (st := s_always) l18 c18 k18
  have b18 := F18.binds (ps := ["_law_part", "_law_row"]) fun _ _ _ _ _ _ us hl => match us, hl with | [_, _], _ => rfl
  have F19 := fun_mk (st := s_is_least) l19 c19 k19
  have b19 := F19.binds (ps := ["_law_part", "_law_row"]) fun _ _ _ _ _ _ us hl => match us, hl with | [_, _], _ => rfl
  have F20 := fun_mk (st := s_whole) l20 c20 k20
  have b20 := F20.binds (ps := ["_law_thing"]) fun _ _ _ _ _ _ us hl => match us, hl with | [_], _ => rfl
  have F21 := fun_mk (st := s_alike) l21 c21 k21
  have b21 := F21.binds (ps := ["_law_told", "_law_due"]) fun _ _ _ _ _ _ us hl => match us, hl with | [_, _], _ => rfl
  have F22 := fun_mk (st := s_law) l22 c22 k22
  have b22 := F22.binds (ps := ["_law_script"]) fun _ _ _ _ _ _ us hl => match us, hl with | [_], _ => rfl
  exact ⟨⟨_, _, F0, PySem.W.mg_of X G a0, b0,
    _, _, F1, PySem.W.mg_of X G a1, b1,
    _, _, F2, PySem.W.mg_of X G a2, b2,
    _, _, F3, PySem.W.mg_of X G a3, b3,
    _, _, F4, PySem.W.mg_of X G a4, b4,
    _, _, F5, PySem.W.mg_of X G a5, b5,
    _, _, F6, PySem.W.mg_of X G a6, b6,
    _, _, F7, PySem.W.mg_of X G a7, b7,
    _, _, F8, PySem.W.mg_of X G a8, b8,
    _, _, F9, PySem.W.mg_of X G a9, b9,
    _, _, F10, PySem.W.mg_of X G a10, b10,
    _, _, F11, PySem.W.mg_of X G a11, b11,
    _, _, F12, PySem.W.mg_of X G a12, b12,
    _, _, F13, PySem.W.mg_of X G a13, b13,
    _, _, F14, PySem.W.mg_of X G a14, b14,
    _, _, F15, PySem.W.mg_of X G a15, b15,
    _, _, F16, PySem.W.mg_of X G a16, b16,
    _, _, F17, PySem.W.mg_of X G a17, b17,
    _, _, F18, PySem.W.mg_of X G a18, b18,
    _, _, F19, PySem.W.mg_of X G a19, b19,
    _, _, F20, PySem.W.mg_of X G a20, b20,
    _, _, F21, PySem.W.mg_of X G a21, b21,
    _, _, F22, PySem.W.mg_of X G a22, b22,
    PySem.W.mg_none_of X G z_abs,
    PySem.W.mg_none_of X G z_bool,
    PySem.W.mg_none_of X G z_int,
    PySem.W.mg_none_of X G z_isinstance,
    PySem.W.mg_none_of X G z_len,
    PySem.W.mg_none_of X G z_min,
    PySem.W.mg_none_of X G z_range,
    PySem.W.mg_none_of X G z_reversed,
    PySem.W.mg_none_of X G z_sorted,
    PySem.W.mg_none_of X G z_str,
    PySem.W.mg_none_of X G z_tuple⟩, rfl, fun s v => .of_eq rfl⟩
theorem all_mk {P : Program} {w : World} {K : PySem.W.Frag} {h : Heap} {mg : Str → Option Value} {fa : Addr} (X : K.In h) (G : h.Ns mainGlobals mg) (hfa : mg "law" = some (.ref fa))
    {f0 : Addr} {od0 an0 : Option Addr} {sl0 : Array (Option Value)} {oc0 kV0 dc0 pm0 cd0 ct0 : Value}
    (a0 : PySem.W.nsIn K mainGlobals "formed" = some (some (.ref f0))) (l0 : K.lookup f0 = some ⟨oc0, od0, .func (PySem.W.fnOf "formed" "formed" (defArgs s_formed) (defBody s_formed) (defScope s_formed) .none kV0 dc0 pm0 an0 cd0 ct0), sl0⟩) (c0 : PySem.W.codeIn K cd0 "formed" = true) (k0 : PySem.W.keepIn K (.ref f0) = true)
    {f1 : Addr} {od1 an1 : Option Addr} {sl1 : Array (Option Value)} {oc1 kV1 dc1 pm1 cd1 ct1 : Value}
    (a1 : PySem.W.nsIn K mainGlobals "side_of" = some (some (.ref f1))) (l1 : K.lookup f1 = some ⟨oc1, od1, .func (PySem.W.fnOf "side_of" "side_of" (defArgs s_side_of) (defBody s_side_of) (defScope s_side_of) .none kV1 dc1 pm1 an1 cd1 ct1), sl1⟩) (c1 : PySem.W.codeIn K cd1 "side_of" = true) (k1 : PySem.W.keepIn K (.ref f1) = true)
    {f2 : Addr} {od2 an2 : Option Addr} {sl2 : Array (Option Value)} {oc2 kV2 dc2 pm2 cd2 ct2 : Value}
    (a2 : PySem.W.nsIn K mainGlobals "no" = some (some (.ref f2))) (l2 : K.lookup f2 = some ⟨oc2, od2, .func (PySem.W.fnOf "no" "no" (defArgs s_no) (defBody s_no) (defScope s_no) .none kV2 dc2 pm2 an2 cd2 ct2), sl2⟩) (c2 : PySem.W.codeIn K cd2 "no" = true) (k2 : PySem.W.keepIn K (.ref f2) = true)
    {f3 : Addr} {od3 an3 : Option Addr} {sl3 : Array (Option Value)} {oc3 kV3 dc3 pm3 cd3 ct3 : Value}
    (a3 : PySem.W.nsIn K mainGlobals "both" = some (some (.ref f3))) (l3 : K.lookup f3 = some ⟨oc3, od3, .func (PySem.W.fnOf "both" "both" (defArgs s_both) (defBody s_both) (defScope s_both) .none kV3 dc3 pm3 an3 cd3 ct3), sl3⟩) (c3 : PySem.W.codeIn K cd3 "both" = true) (k3 : PySem.W.keepIn K (.ref f3) = true)
    {f4 : Addr} {od4 an4 : Option Addr} {sl4 : Array (Option Value)} {oc4 kV4 dc4 pm4 cd4 ct4 : Value}
    (a4 : PySem.W.nsIn K mainGlobals "but_not" = some (some (.ref f4))) (l4 : K.lookup f4 = some ⟨oc4, od4, .func (PySem.W.fnOf "but_not" "but_not" (defArgs s_but_not) (defBody s_but_not) (defScope s_but_not) .none kV4 dc4 pm4 an4 cd4 ct4), sl4⟩) (c4 : PySem.W.codeIn K cd4 "but_not" = true) (k4 : PySem.W.keepIn K (.ref f4) = true)
    {f5 : Addr} {od5 an5 : Option Addr} {sl5 : Array (Option Value)} {oc5 kV5 dc5 pm5 cd5 ct5 : Value}
    (a5 : PySem.W.nsIn K mainGlobals "implies" = some (some (.ref f5))) (l5 : K.lookup f5 = some ⟨oc5, od5, .func (PySem.W.fnOf "implies" "implies" (defArgs s_implies) (defBody s_implies) (defScope s_implies) .none kV5 dc5 pm5 an5 cd5 ct5), sl5⟩) (c5 : PySem.W.codeIn K cd5 "implies" = true) (k5 : PySem.W.keepIn K (.ref f5) = true)
    {f6 : Addr} {od6 an6 : Option Addr} {sl6 : Array (Option Value)} {oc6 kV6 dc6 pm6 cd6 ct6 : Value}
    (a6 : PySem.W.nsIn K mainGlobals "part_condition" = some (some (.ref f6))) (l6 : K.lookup f6 = some ⟨oc6, od6, .func (PySem.W.fnOf "part_condition" "part_condition" (defArgs s_part_condition) (defBody s_part_condition) (defScope s_part_condition) .none kV6 dc6 pm6 an6 cd6 ct6), sl6⟩) (c6 : PySem.W.codeIn K cd6 "part_condition" = true) (k6 : PySem.W.keepIn K (.ref f6) = true)
    {f7 : Addr} {od7 an7 : Option Addr} {sl7 : Array (Option Value)} {oc7 kV7 dc7 pm7 cd7 ct7 : Value}
    (a7 : PySem.W.nsIn K mainGlobals "cause_list" = some (some (.ref f7))) (l7 : K.lookup f7 = some ⟨oc7, od7, .func (PySem.W.fnOf "cause_list" "cause_list" (defArgs s_cause_list) (defBody s_cause_list) (defScope s_cause_list) .none kV7 dc7 pm7 an7 cd7 ct7), sl7⟩) (c7 : PySem.W.codeIn K cd7 "cause_list" = true) (k7 : PySem.W.keepIn K (.ref f7) = true)
    {f8 : Addr} {od8 an8 : Option Addr} {sl8 : Array (Option Value)} {oc8 kV8 dc8 pm8 cd8 ct8 : Value}
    (a8 : PySem.W.nsIn K mainGlobals "least_causes" = some (some (.ref f8))) (l8 : K.lookup f8 = some ⟨oc8, od8, .func (PySem.W.fnOf "least_causes" "least_causes" (defArgs s_least_causes) (defBody s_least_causes) (defScope s_least_causes) .none kV8 dc8 pm8 an8 cd8 ct8), sl8⟩) (c8 : PySem.W.codeIn K cd8 "least_causes" = true) (k8 : PySem.W.keepIn K (.ref f8) = true)
    {f9 : Addr} {od9 an9 : Option Addr} {sl9 : Array (Option Value)} {oc9 kV9 dc9 pm9 cd9 ct9 : Value}
    (a9 : PySem.W.nsIn K mainGlobals "_law_hand" = some (some (.ref f9))) (l9 : K.lookup f9 = some ⟨oc9, od9, .func (PySem.W.fnOf "_law_hand" "_law_hand" (defArgs s_hand) (defBody s_hand) (defScope s_hand) .none kV9 dc9 pm9 an9 cd9 ct9), sl9⟩) (c9 : PySem.W.codeIn K cd9 "_law_hand" = true) (k9 : PySem.W.keepIn K (.ref f9) = true)
    {f10 : Addr} {od10 an10 : Option Addr} {sl10 : Array (Option Value)} {oc10 kV10 dc10 pm10 cd10 ct10 : Value}
    (a10 : PySem.W.nsIn K mainGlobals "_law_stirred" = some (some (.ref f10))) (l10 : K.lookup f10 = some ⟨oc10, od10, .func (PySem.W.fnOf "_law_stirred" "_law_stirred" (defArgs s_stirred) (defBody s_stirred) (defScope s_stirred) .none kV10 dc10 pm10 an10 cd10 ct10), sl10⟩) (c10 : PySem.W.codeIn K cd10 "_law_stirred" = true) (k10 : PySem.W.keepIn K (.ref f10) = true)
    {f11 : Addr} {od11 an11 : Option Addr} {sl11 : Array (Option Value)} {oc11 kV11 dc11 pm11 cd11 ct11 : Value}
    (a11 : PySem.W.nsIn K mainGlobals "_law_take" = some (some (.ref f11))) (l11 : K.lookup f11 = some ⟨oc11, od11, .func (PySem.W.fnOf "_law_take" "_law_take" (defArgs s_take) (defBody s_take) (defScope s_take) .none kV11 dc11 pm11 an11 cd11 ct11), sl11⟩) (c11 : PySem.W.codeIn K cd11 "_law_take" = true) (k11 : PySem.W.keepIn K (.ref f11) = true)
    {f12 : Addr} {od12 an12 : Option Addr} {sl12 : Array (Option Value)} {oc12 kV12 dc12 pm12 cd12 ct12 : Value}
    (a12 : PySem.W.nsIn K mainGlobals "_law_switch_names" = some (some (.ref f12))) (l12 : K.lookup f12 = some ⟨oc12, od12, .func (PySem.W.fnOf "_law_switch_names" "_law_switch_names" (defArgs s_switch_names) (defBody s_switch_names) (defScope s_switch_names) .none kV12 dc12 pm12 an12 cd12 ct12), sl12⟩) (c12 : PySem.W.codeIn K cd12 "_law_switch_names" = true) (k12 : PySem.W.keepIn K (.ref f12) = true)
    {f13 : Addr} {od13 an13 : Option Addr} {sl13 : Array (Option Value)} {oc13 kV13 dc13 pm13 cd13 ct13 : Value}
    (a13 : PySem.W.nsIn K mainGlobals "_law_settings" = some (some (.ref f13))) (l13 : K.lookup f13 = some ⟨oc13, od13, .func (PySem.W.fnOf "_law_settings" "_law_settings" (defArgs s_settings) (defBody s_settings) (defScope s_settings) .none kV13 dc13 pm13 an13 cd13 ct13), sl13⟩) (c13 : PySem.W.codeIn K cd13 "_law_settings" = true) (k13 : PySem.W.keepIn K (.ref f13) = true)
    {f14 : Addr} {od14 an14 : Option Addr} {sl14 : Array (Option Value)} {oc14 kV14 dc14 pm14 cd14 ct14 : Value}
    (a14 : PySem.W.nsIn K mainGlobals "_law_bits" = some (some (.ref f14))) (l14 : K.lookup f14 = some ⟨oc14, od14, .func (PySem.W.fnOf "_law_bits" "_law_bits" (defArgs s_bits) (defBody s_bits) (defScope s_bits) .none kV14 dc14 pm14 an14 cd14 ct14), sl14⟩) (c14 : PySem.W.codeIn K cd14 "_law_bits" = true) (k14 : PySem.W.keepIn K (.ref f14) = true)
    {f15 : Addr} {od15 an15 : Option Addr} {sl15 : Array (Option Value)} {oc15 kV15 dc15 pm15 cd15 ct15 : Value}
    (a15 : PySem.W.nsIn K mainGlobals "_law_form" = some (some (.ref f15))) (l15 : K.lookup f15 = some ⟨oc15, od15, .func (PySem.W.fnOf "_law_form" "_law_form" (defArgs s_form) (defBody s_form) (defScope s_form) .none kV15 dc15 pm15 an15 cd15 ct15), sl15⟩) (c15 : PySem.W.codeIn K cd15 "_law_form" = true) (k15 : PySem.W.keepIn K (.ref f15) = true)
    {f16 : Addr} {od16 an16 : Option Addr} {sl16 : Array (Option Value)} {oc16 kV16 dc16 pm16 cd16 ct16 : Value}
    (a16 : PySem.W.nsIn K mainGlobals "_law_openings" = some (some (.ref f16))) (l16 : K.lookup f16 = some ⟨oc16, od16, .func (PySem.W.fnOf "_law_openings" "_law_openings" (defArgs s_openings) (defBody s_openings) (defScope s_openings) .none kV16 dc16 pm16 an16 cd16 ct16), sl16⟩) (c16 : PySem.W.codeIn K cd16 "_law_openings" = true) (k16 : PySem.W.keepIn K (.ref f16) = true)
    {f17 : Addr} {od17 an17 : Option Addr} {sl17 : Array (Option Value)} {oc17 kV17 dc17 pm17 cd17 ct17 : Value}
    (a17 : PySem.W.nsIn K mainGlobals "_law_inside" = some (some (.ref f17))) (l17 : K.lookup f17 = some ⟨oc17, od17, .func (PySem.W.fnOf "_law_inside" "_law_inside" (defArgs s_inside) (defBody s_inside) (defScope s_inside) .none kV17 dc17 pm17 an17 cd17 ct17), sl17⟩) (c17 : PySem.W.codeIn K cd17 "_law_inside" = true) (k17 : PySem.W.keepIn K (.ref f17) = true)
    {f18 : Addr} {od18 an18 : Option Addr} {sl18 : Array (Option Value)} {oc18 kV18 dc18 pm18 cd18 ct18 : Value}
    (a18 : PySem.W.nsIn K mainGlobals "_law_always" = some (some (.ref f18))) (l18 : K.lookup f18 = some ⟨oc18, od18, .func (PySem.W.fnOf "_law_always" "_law_always" (defArgs s_always) (defBody s_always) (defScope s_always) .none kV18 dc18 pm18 an18 cd18 ct18), sl18⟩) (c18 : PySem.W.codeIn K cd18 "_law_always" = true) (k18 : PySem.W.keepIn K (.ref f18) = true)
    {f19 : Addr} {od19 an19 : Option Addr} {sl19 : Array (Option Value)} {oc19 kV19 dc19 pm19 cd19 ct19 : Value}
    (a19 : PySem.W.nsIn K mainGlobals "_law_is_least" = some (some (.ref f19))) (l19 : K.lookup f19 = some ⟨oc19, od19, .func (PySem.W.fnOf "_law_is_least" "_law_is_least" (defArgs s_is_least) (defBody s_is_least) (defScope s_is_least) .none kV19 dc19 pm19 an19 cd19 ct19), sl19⟩) (c19 : PySem.W.codeIn K cd19 "_law_is_least" = true) (k19 : PySem.W.keepIn K (.ref f19) = true)
    {f20 : Addr} {od20 an20 : Option Addr} {sl20 : Array (Option Value)} {oc20 kV20 dc20 pm20 cd20 ct20 : Value}
    (a20 : PySem.W.nsIn K mainGlobals "_law_whole" = some (some (.ref f20))) (l20 : K.lookup f20 = some ⟨oc20, od20, .func (PySem.W.fnOf "_law_whole" "_law_whole" (defArgs s_whole) (defBody s_whole) (defScope s_whole) .none kV20 dc20 pm20 an20 cd20 ct20), sl20⟩) (c20 : PySem.W.codeIn K cd20 "_law_whole" = true) (k20 : PySem.W.keepIn K (.ref f20) = true)
    {f21 : Addr} {od21 an21 : Option Addr} {sl21 : Array (Option Value)} {oc21 kV21 dc21 pm21 cd21 ct21 : Value}
    (a21 : PySem.W.nsIn K mainGlobals "_law_alike" = some (some (.ref f21))) (l21 : K.lookup f21 = some ⟨oc21, od21, .func (PySem.W.fnOf "_law_alike" "_law_alike" (defArgs s_alike) (defBody s_alike) (defScope s_alike) .none kV21 dc21 pm21 an21 cd21 ct21), sl21⟩) (c21 : PySem.W.codeIn K cd21 "_law_alike" = true) (k21 : PySem.W.keepIn K (.ref f21) = true)
    {f22 : Addr} {od22 an22 : Option Addr} {sl22 : Array (Option Value)} {oc22 kV22 dc22 pm22 cd22 ct22 : Value}
    (a22 : PySem.W.nsIn K mainGlobals "law" = some (some (.ref f22))) (l22 : K.lookup f22 = some ⟨oc22, od22, .func (PySem.W.fnOf "law" "law" (defArgs s_law) (defBody s_law) (defScope s_law) .none kV22 dc22 pm22 an22 cd22 ct22), sl22⟩) (c22 : PySem.W.codeIn K cd22 "law" = true) (k22 : PySem.W.keepIn K (.ref f22) = true)
    (z_abs : PySem.W.nsIn K mainGlobals "abs" = some none)
    (z_bool : PySem.W.nsIn K mainGlobals "bool" = some none)
    (z_int : PySem.W.nsIn K mainGlobals "int" = some none)
    (z_isinstance : PySem.W.nsIn K mainGlobals "isinstance" = some none)
    (z_len : PySem.W.nsIn K mainGlobals "len" = some none)
    (z_min : PySem.W.nsIn K mainGlobals "min" = some none)
    (z_range : PySem.W.nsIn K mainGlobals "range" = some none)
    (z_reversed : PySem.W.nsIn K mainGlobals "reversed" = some none)
    (z_sorted : PySem.W.nsIn K mainGlobals "sorted" = some none)
    (z_str : PySem.W.nsIn K mainGlobals "str" = some none)
    (z_tuple : PySem.W.nsIn K mainGlobals "tuple" = some none)
    : ∃ fd : FuncData, (∀ (s : Shared) (v : Value), BindsTo s fd ⟨[v], []⟩ [("_law_script", v)]) ∧ ∀ base : Heap, K.In base → base.Ns mainGlobals mg → FnOk P w K mg base CX0 40 fa fd ["_law_script"] (spLaw K) := by
  obtain ⟨T, e, hb⟩ := tp_mk X G hfa a0 l0 c0 k0 a1 l1 c1 k1 a2 l2 c2 k2 a3 l3 c3 k3 a4 l4 c4 k4 a5 l5 c5 k5 a6 l6 c6 k6 a7 l7 c7 k7 a8 l8 c8 k8 a9 l9 c9 k9 a10 l10 c10 k10 a11 l11 c11 k11 a12 l12 c12 k12 a13 l13 c13 k13 a14 l14 c14 k14 a15 l15 c15 k15 a16 l16 c16 k16 a17 l17 c17 k17 a18 l18 c18 k18 a19 l19 c19 k19 a20 l20 c20 k20 a21 l21 c21 k21 a22 l22 c22 k22 z_abs z_bool z_int z_isinstance z_len z_min z_range z_reversed z_sorted z_str z_tuple
  subst e
  exact ⟨T.d_law, hb, fun base _ _ => ok_law T⟩
end
end EA
open PySem PySem.W PyProof.Rows
set_option maxRecDepth 100000 in
set_option maxHeartbeats 0 in
theorem PySem.Challenge.cw_eacharm_k04_least_causes_all_told_holds : PySem.Challenge.rw_eacharm_k04_least_causes_all_told.Holds := by
  w_on; o_law; k_head; (case hw => w_witness2)
  k_fill
  refine L2.walk_of (l := PySem.Challenge.rw_eacharm_k04_least_causes_all_told) (n := 63) (k := 40) (x := "_law_script") (CX := fun _ => L2.CX0) (sp := fun w => EA.spLaw _) rfl (by decide) rfl ⟨rfl, by decide, by decide⟩ (fun w h Y => PySem.W.kIn_of Y) ?F (fun _ _ a ns hl _ hS => ⟨a, ns, rfl, hS, hl, fun _ => rfl⟩) (fun _ _ _ _ _ h => h)
  case F =>
    intro w mg fa h KX G hmg
    refine' EA.all_mk KX G hmg ?a0 ?l0 ?c0 ?k0 ?a1 ?l1 ?c1 ?k1 ?a2 ?l2 ?c2 ?k2 ?a3 ?l3 ?c3 ?k3 ?a4 ?l4 ?c4 ?k4 ?a5 ?l5 ?c5 ?k5 ?a6 ?l6 ?c6 ?k6 ?a7 ?l7 ?c7 ?k7 ?a8 ?l8 ?c8 ?k8 ?a9 ?l9 ?c9 ?k9 ?a10 ?l10 ?c10 ?k10 ?a11 ?l11 ?c11 ?k11 ?a12 ?l12 ?c12 ?k12 ?a13 ?l13 ?c13 ?k13 ?a14 ?l14 ?c14 ?k14 ?a15 ?l15 ?c15 ?k15 ?a16 ?l16 ?c16 ?k16 ?a17 ?l17 ?c17 ?k17 ?a18 ?l18 ?c18 ?k18 ?a19 ?l19 ?c19 ?k19 ?a20 ?l20 ?c20 ?k20 ?a21 ?l21 ?c21 ?k21 ?a22 ?l22 ?c22 ?k22 ?z_abs ?z_bool ?z_int ?z_isinstance ?z_len ?z_min ?z_range ?z_reversed ?z_sorted ?z_str ?z_tuple
    (case a0 => k_is)
    (case l0 => k_is)
    (case c0 => k_is)
    (case k0 => k_is)
    (case a1 => k_is)
    (case l1 => k_is)
    (case c1 => k_is)
    (case k1 => k_is)
    (case a2 => k_is)
    (case l2 => k_is)
    (case c2 => k_is)
    (case k2 => k_is)
    (case a3 => k_is)
    (case l3 => k_is)
    (case c3 => k_is)
    (case k3 => k_is)
    (case a4 => k_is)
    (case l4 => k_is)
    (case c4 => k_is)
    (case k4 => k_is)
    (case a5 => k_is)
    (case l5 => k_is)
    (case c5 => k_is)
    (case k5 => k_is)
    (case a6 => k_is)
    (case l6 => k_is)
    (case c6 => k_is)
    (case k6 => k_is)
    (case a7 => k_is)
    (case l7 => k_is)
    (case c7 => k_is)
    (case k7 => k_is)
    (case a8 => k_is)
    (case l8 => k_is)
    (case c8 => k_is)
    (case k8 => k_is)
    (case a9 => k_is)
    (case l9 => k_is)
    (case c9 => k_is)
    (case k9 => k_is)
    (case a10 => k_is)
    (case l10 => k_is)
    (case c10 => k_is)
    (case k10 => k_is)
    (case a11 => k_is)
    (case l11 => k_is)
    (case c11 => k_is)
    (case k11 => k_is)
    (case a12 => k_is)
    (case l12 => k_is)
    (case c12 => k_is)
    (case k12 => k_is)
    (case a13 => k_is)
    (case l13 => k_is)
    (case c13 => k_is)
    (case k13 => k_is)
    (case a14 => k_is)
    (case l14 => k_is)
    (case c14 => k_is)
    (case k14 => k_is)
    (case a15 => k_is)
    (case l15 => k_is)
    (case c15 => k_is)
    (case k15 => k_is)
    (case a16 => k_is)
    (case l16 => k_is)
    (case c16 => k_is)
    (case k16 => k_is)
    (case a17 => k_is)
    (case l17 => k_is)
    (case c17 => k_is)
    (case k17 => k_is)
    (case a18 => k_is)
    (case l18 => k_is)
    (case c18 => k_is)
    (case k18 => k_is)
    (case a19 => k_is)
    (case l19 => k_is)
    (case c19 => k_is)
    (case k19 => k_is)
    (case a20 => k_is)
    (case l20 => k_is)
    (case c20 => k_is)
    (case k20 => k_is)
    (case a21 => k_is)
    (case l21 => k_is)
    (case c21 => k_is)
    (case k21 => k_is)
    (case a22 => k_is)
    (case l22 => k_is)
    (case c22 => k_is)
    (case k22 => k_is)
    (case z_abs => k_is)
    (case z_bool => k_is)
    (case z_int => k_is)
    (case z_isinstance => k_is)
    (case z_len => k_is)
    (case z_min => k_is)
    (case z_range => k_is)
    (case z_reversed => k_is)
    (case z_sorted => k_is)
    (case z_str => k_is)
    (case z_tuple => k_is)
