import PyProof.Rows.All
import HandS.ForMost
import HandS.IsInst
import HandS.Flow
import HandS.More
import HandS.Text
import PySem.Challenge.RW_eacharm_k00_conditions_after_any_run
set_option Elab.async false
set_option linter.all false
set_option maxRecDepth 100000
set_option maxHeartbeats 8000000
namespace EA
open PySem PySem.Spec PyProof.Rows L2

/-! ### data in a part of the heap: G holds the data, H all; what is changed stays out of G -/
mutual
inductive Dat (G : Hp) : V → PyData → Prop
  | non : Dat G .non .none
  | bl (b : Bool) : Dat G (.bl b) (.bool b)
  | int (i : Int) : Dat G (.int i) (.int i)
  | str (x : Str) : Dat G (.str x) (.str x)
  | lst {a : Addr} {xs : List V} {ds : List PyData} : G a = some (.lst xs) → DatA G xs ds → Dat G (.ref a) (.list ds)
  | tup {a : Addr} {xs : List V} {ds : List PyData} : G a = some (.tup xs) → DatA G xs ds → Dat G (.ref a) (.tuple ds)
inductive DatA (G : Hp) : List V → List PyData → Prop
  | nil : DatA G [] []
  | cons {v : V} {vs : List V} {d : PyData} {ds : List PyData} : Dat G v d → DatA G vs ds → DatA G (v :: vs) (d :: ds)
end
section
variable {G G' H : Hp} {K : PySem.W.Frag}
mutual
theorem Dat.up (s : Same G G') : ∀ {d : PyData} {v : V}, Dat G v d → Dat G' v d
  | .none, _, .non => .non
  | .bool _, _, .bl b => .bl b
  | .int _, _, .int i => .int i
  | .str _, _, .str x => .str x
  | .list _, _, .lst e h => .lst (s _ _ e) (DatA.up s h)
  | .tuple _, _, .tup e h => .tup (s _ _ e) (DatA.up s h)
theorem DatA.up (s : Same G G') : ∀ {ds : List PyData} {vs : List V}, DatA G vs ds → DatA G' vs ds
  | [], _, .nil => .nil
  | _ :: _, _, .cons h t => .cons (Dat.up s h) (DatA.up s t)
end
mutual
theorem Dat.dp : ∀ {d : PyData} {v : V}, Dat G v d → Dp K G v d
  | .none, _, .non => .non
  | .bool _, _, .bl b => .bl b
  | .int _, _, .int i => .int i
  | .str _, _, .str x => .str x
  | .list _, _, .lst e h => .lst (SqL.of e) (DatA.dp h)
  | .tuple _, _, .tup e h => .tup (SqT.of e) (DatA.dp h)
theorem DatA.dp : ∀ {ds : List PyData} {vs : List V}, DatA G vs ds → DpAll K G vs ds
  | [], _, .nil => .nil
  | _ :: _, _, .cons h t => .cons (Dat.dp h) (DatA.dp t)
end
theorem Dat.dpS {d : PyData} {v : V} (h : Dat G v d) (s : Same G H) : Dp K H v d := (h.up s).dp
theorem DatA.len : ∀ {vs : List V} {ds : List PyData}, DatA G vs ds → vs.length = ds.length
  | _, _, .nil => rfl
  | _, _, .cons _ t => by rw [List.length_cons, List.length_cons, DatA.len t]
theorem DatA.get : ∀ {vs : List V} {ds : List PyData} {i : Nat} {d : PyData}, DatA G vs ds → ds[i]? = some d → ∃ v, vs[i]? = some v ∧ Dat G v d
  | _, _, _, _, .nil, e => by simp at e
  | _, _, 0, _, .cons h _, e => by simp at e; subst e; exact ⟨_, rfl, h⟩
  | _, _, i + 1, d, .cons _ t, e => by
    obtain ⟨v, h1, h2⟩ := DatA.get (i := i) (d := d) t (by simpa using e)
    exact ⟨v, by simpa using h1, h2⟩
theorem DatA.getV : ∀ {vs : List V} {ds : List PyData} {i : Nat} {v : V}, DatA G vs ds → vs[i]? = some v → ∃ d, ds[i]? = some d ∧ Dat G v d
  | _, _, _, _, .nil, e => by simp at e
  | _, _, 0, _, .cons h _, e => by simp at e; subst e; exact ⟨_, rfl, h⟩
  | _, _, i + 1, v, .cons _ t, e => by
    obtain ⟨d, h1, h2⟩ := DatA.getV (i := i) (v := v) t (by simpa using e)
    exact ⟨d, by simpa using h1, h2⟩
theorem DatA.app : ∀ {vs ws : List V} {ds es : List PyData}, DatA G vs ds → DatA G ws es → DatA G (vs ++ ws) (ds ++ es)
  | _, _, _, _, .nil, h => h
  | _, _, _, _, .cons h t, h2 => .cons h (DatA.app t h2)
theorem DatA.take : ∀ {vs : List V} {ds : List PyData} (n : Nat), DatA G vs ds → DatA G (vs.take n) (ds.take n)
  | _, _, 0, _ => .nil
  | _, _, _ + 1, .nil => .nil
  | _, _, n + 1, .cons h t => .cons h (DatA.take n t)
theorem DatA.drop : ∀ {vs : List V} {ds : List PyData} (n : Nat), DatA G vs ds → DatA G (vs.drop n) (ds.drop n)
  | _, _, 0, h => h
  | _, _, _ + 1, .nil => .nil
  | _, _, n + 1, .cons _ t => DatA.drop n t
theorem DatA.erase : ∀ {vs : List V} {ds : List PyData} (n : Nat), DatA G vs ds → DatA G (vs.eraseIdx n) (ds.eraseIdx n)
  | _, _, _, .nil => .nil
  | _, _, 0, .cons _ t => t
  | _, _, n + 1, .cons h t => .cons h (DatA.erase n t)
theorem DatA.last : ∀ {ds : List PyData} {vs : List V} {d : PyData}, DatA G vs (ds ++ [d]) → ∃ vs' u, vs = vs' ++ [u] ∧ DatA G vs' ds ∧ Dat G u d
  | [], _, _, .cons h .nil => ⟨[], _, rfl, .nil, h⟩
  | _ :: r, _, d, .cons h t => by
    obtain ⟨vs', u, e, h1, h2⟩ := DatA.last (ds := r) (d := d) t
    exact ⟨_ :: vs', u, by rw [e]; rfl, .cons h h1, h2⟩
theorem DatA.bls : ∀ (bs : List Bool), DatA G (bs.map V.bl) (bs.map PyData.bool)
  | [] => .nil
  | b :: r => .cons (.bl b) (DatA.bls r)
theorem DatA.ints : ∀ (bs : List Int), DatA G (bs.map V.int) (bs.map PyData.int)
  | [] => .nil
  | b :: r => .cons (.int b) (DatA.ints r)
theorem DatA.strs : ∀ (bs : List Str), DatA G (bs.map V.str) (bs.map PyData.str)
  | [] => .nil
  | b :: r => .cons (.str b) (DatA.strs r)
theorem DatA.bls_inv : ∀ {bs : List Bool} {vs : List V}, DatA G vs (bs.map PyData.bool) → vs = bs.map V.bl
  | [], _, .nil => rfl
  | _ :: _, _, .cons (.bl _) t => by rw [List.map_cons, DatA.bls_inv t]
theorem DatA.ints_inv : ∀ {bs : List Int} {vs : List V}, DatA G vs (bs.map PyData.int) → vs = bs.map V.int
  | [], _, .nil => rfl
  | _ :: _, _, .cons (.int _) t => by rw [List.map_cons, DatA.ints_inv t]
theorem DatA.strs_inv : ∀ {bs : List Str} {vs : List V}, DatA G vs (bs.map PyData.str) → vs = bs.map V.str
  | [], _, .nil => rfl
  | _ :: _, _, .cons (.str _) t => by rw [List.map_cons, DatA.strs_inv t]
theorem Dat.list_inv {v : V} {ds : List PyData} (h : Dat G v (.list ds)) : ∃ a xs, v = .ref a ∧ G a = some (.lst xs) ∧ DatA G xs ds := by
  cases h with
  | lst e t => exact ⟨_, _, rfl, e, t⟩
theorem Dat.tup_inv {v : V} {ds : List PyData} (h : Dat G v (.tuple ds)) : ∃ a xs, v = .ref a ∧ G a = some (.tup xs) ∧ DatA G xs ds := by
  cases h with
  | tup e t => exact ⟨_, _, rfl, e, t⟩
theorem Dat.int_inv {v : V} {i : Int} (h : Dat G v (.int i)) : v = .int i := by cases h; rfl
theorem Dat.bool_inv {v : V} {i : Bool} (h : Dat G v (.bool i)) : v = .bl i := by cases h; rfl
theorem Dat.str_inv {v : V} {i : Str} (h : Dat G v (.str i)) : v = .str i := by cases h; rfl
end

/-! ### from one state to a later one: only objects of M and new ones are changed -/
structure Ex (M : List Addr) (G H G' H' : Hp) : Prop where
  gg : Same G G'
  gh : Same G' H'
  hh : ∀ b o, b ∉ M → H b = some o → H' b = some o
  nw : ∀ b, G b = none → H b ≠ none → G' b = none
  dm : ∀ b, H b ≠ none → H' b ≠ none
section
variable {M M' : List Addr} {G H G1 H1 G2 H2 : Hp} {p : Addr} {o : HO}
theorem Same.none {H H' : Hp} (s : Same H H') {p : Addr} (h : H' p = none) : H p = none := s.free h
theorem Ex.refl (s : Same G H) : Ex M G H G H := ⟨Same.refl _, s, fun _ _ _ h => h, fun _ h _ => h, fun _ h => h⟩
theorem Ex.step (a : Ex M G H G1 H1) (b : Ex M' G1 H1 G2 H2) (m : ∀ x ∈ M', x ∈ M ∨ H x = none) : Ex M G H G2 H2 where
  gg := a.gg.trans b.gg
  gh := b.gh
  hh := fun x o hx e => b.hh x o (fun z => (m x z).elim hx fun n => by rw [n] at e; cases e) (a.hh x o hx e)
  nw := fun x g h => b.nw x (a.nw x g h) (a.dm x h)
  dm := fun x h => b.dm x (a.dm x h)
theorem Ex.trans (a : Ex M G H G1 H1) (b : Ex M G1 H1 G2 H2) : Ex M G H G2 H2 := a.step b fun _ h => .inl h
theorem Ex.pure (a : Ex M G H G1 H1) (b : Ex [] G1 H1 G2 H2) : Ex M G H G2 H2 := a.step b fun _ h => nomatch h
theorem Ex.mono (a : Ex M G H G1 H1) (m : ∀ x ∈ M, x ∈ M' ∨ H x = none) : Ex M' G H G1 H1 :=
  ⟨a.gg, a.gh, fun x o hx e => a.hh x o (fun z => (m x z).elim hx fun n => by rw [n] at e; cases e) e, a.nw, a.dm⟩
theorem Ex.of0 (a : Ex [] G H G1 H1) : Ex M G H G1 H1 := a.mono fun _ h => nomatch h
theorem Ex.same (a : Ex [] G H G1 H1) : Same H H1 := fun b o e => a.hh b o (fun z => nomatch z) e
/-- a new object that is not data -/
theorem Ex.new (a : Ex M G H G1 H1) (n : H1 p = none) : Ex M G H G1 (upd H1 p o) where
  gg := a.gg
  gh := fun b u e => by rw [upd_ne (ne_of_none (a.gh b u e) n)]; exact a.gh b u e
  hh := fun b u hb e => by rw [upd_ne (ne_of_none (a.hh b u hb e) n)]; exact a.hh b u hb e
  nw := a.nw
  dm := fun b h => by
    have q := a.dm b h
    by_cases e : b = p
    · subst e; exact absurd n q
    · rw [upd_ne e]; exact q
/-- a new object that is data -/
theorem Ex.dat (a : Ex M G H G1 H1) (n : H1 p = none) : Ex M G H (upd G1 p o) (upd H1 p o) where
  gg := fun b u e => by rw [upd_ne (ne_of_none (a.gg b u e) (a.gh.free n))]; exact a.gg b u e
  gh := fun b u e => by
    by_cases z : b = p
    · subst z; rw [upd_same] at e ⊢; exact e
    · rw [upd_ne z] at e ⊢; exact a.gh b u e
  hh := fun b u hb e => by rw [upd_ne (ne_of_none (a.hh b u hb e) n)]; exact a.hh b u hb e
  nw := fun b g h => by
    have q := a.dm b h
    rw [upd_ne (fun e => q (by rw [e]; exact n))]
    exact a.nw b g h
  dm := fun b h => by
    have q := a.dm b h
    by_cases e : b = p
    · subst e; exact absurd n q
    · rw [upd_ne e]; exact q
/-- an object that is changed: of M, or made since -/
theorem Ex.wr (a : Ex M G H G1 H1) (g : G1 p = none) (m : p ∈ M ∨ H p = none) : Ex M G H G1 (upd H1 p o) where
  gg := a.gg
  gh := fun b u e => by rw [upd_ne (ne_of_none e g)]; exact a.gh b u e
  hh := fun b u hb e => by
    have z : b ≠ p := fun z => by
      subst z
      rcases m with m | m
      · exact hb m
      · rw [m] at e; cases e
    rw [upd_ne z]; exact a.hh b u hb e
  nw := a.nw
  dm := fun b h => by
    by_cases e : b = p
    · subst e; rw [upd_same]; exact fun z => nomatch z
    · rw [upd_ne e]; exact a.dm b h
/-- an object made since becomes data -/
theorem Ex.fix (a : Ex M G H G1 H1) (g : G1 p = none) (h : H1 p = some o) (n : H p = none) : Ex M G H (upd G1 p o) H1 where
  gg := fun b u e => by rw [upd_ne (ne_of_none (a.gg b u e) g)]; exact a.gg b u e
  gh := fun b u e => by
    by_cases z : b = p
    · subst z; rw [upd_same] at e; rw [h]; exact e
    · rw [upd_ne z] at e; exact a.gh b u e
  hh := a.hh
  nw := fun b g' h' => by rw [upd_ne (fun z => h' (by rw [z]; exact n))]; exact a.nw b g' h'
  dm := a.dm
theorem Ex.free (a : Ex M G H G1 H1) {q : Addr} (h : H1 q = none) : H q = none := by
  cases e : H q with
  | none => rfl
  | some u => exact absurd h (a.dm q (by rw [e]; exact fun z => nomatch z))
theorem Ex.at_ (a : Ex M G H G1 H1) {q : Addr} {u : HO} (h : H q = some u) (m : q ∉ M) : H1 q = some u := a.hh q u m h
theorem Ex.out (a : Ex M G H G1 H1) {q : Addr} {u : HO} (g : G q = none) (h : H q = some u) : G1 q = none := a.nw q g (by rw [h]; exact fun z => nomatch z)
end
section
variable {G : Hp} {p : Addr} {xs : List V} {ds : List PyData}
theorem same_updG {o : HO} (n : G p = none) : Same G (upd G p o) := fun b u e => by rw [upd_ne (ne_of_none e n)]; exact e
theorem Dat.newT (h : DatA G xs ds) (n : G p = none) : Dat (upd G p (.tup xs)) (.ref p) (.tuple ds) := .tup upd_same (h.up (same_updG n))
theorem Dat.newL (h : DatA G xs ds) (n : G p = none) : Dat (upd G p (.lst xs)) (.ref p) (.list ds) := .lst upd_same (h.up (same_updG n))
end

/-! ### a pure def: from data to data -/
/-- the wish behind a pure call -/
abbrev Aft (M : List Addr) (G H : Hp) (Q : VK) (d : PyData) : Prop := ∀ G' H' r, Ex M G H G' H' → Dat G' r d → Q r H'

/-! ### rules of our own -/
section
variable {X : Cx}
/-- is, is not: a value against None or a bool -/
def plainC : V → Bool
  | .non => true
  | .bl _ => true
  | _ => false
theorem RelV.same_iff {x y : V} {v u : Value} (rx : RelV x v) (ry : RelV y u) (p : plainC y = true) : plainIs v u = true ∧ (v == u) = decide (x = y) := by
  cases y with
  | non =>
    cases ry
    cases x <;> first
      | (cases rx; exact ⟨rfl, rfl⟩)
      | (obtain ⟨t, rfl⟩ := rx; exact ⟨rfl, rfl⟩)
  | bl b =>
    cases ry
    cases x with
    | bl c =>
      cases rx
      refine ⟨rfl, ?_⟩
      cases b <;> cases c <;> rfl
    | non => cases rx; exact ⟨rfl, rfl⟩
    | ref _ => cases rx; exact ⟨rfl, rfl⟩
    | ty _ => cases rx; exact ⟨rfl, rfl⟩
    | int _ => obtain ⟨t, rfl⟩ := rx; exact ⟨rfl, rfl⟩
    | str _ => obtain ⟨t, rfl⟩ := rx; exact ⟨rfl, rfl⟩
    | byt _ => obtain ⟨t, rfl⟩ := rx; exact ⟨rfl, rfl⟩
    | flt _ => obtain ⟨t, rfl⟩ := rx; exact ⟨rfl, rfl⟩
  | _ => exact absurd (show false = true from p) Bool.false_ne_true
def rIsC : R2 := fun x y H Q => plainC y = true ∧ Q (.bl (decide (x = y))) H
def rIsNotC : R2 := fun x y H Q => plainC y = true ∧ Q (.bl (!decide (x = y))) H
theorem op_isC : OpR X (compareOp .Is) rIsC := by
  intro pins s σ H x y v u Q I rx ry h
  obtain ⟨p, q⟩ := h
  obtain ⟨e1, e2⟩ := RelV.same_iff rx ry p
  exact wpAny_is_plain e1 (fin_bl I q e2.symm)
theorem op_isnotC : OpR X (compareOp .IsNot) rIsNotC := by
  intro pins s σ H x y v u Q I rx ry h
  obtain ⟨p, q⟩ := h
  obtain ⟨e1, e2⟩ := RelV.same_iff rx ry p
  exact wpAny_isNot_plain e1 (fin_bl I q (by rw [e2]))
/-- two ints or two texts -/
def rLtA : R2 := fun x y H Q => (∃ i j, x = .int i ∧ y = .int j ∧ Q (.bl (decide (i < j))) H) ∨ (∃ i j, x = .str i ∧ y = .str j ∧ Q (.bl (decide (i.cps.toList < j.cps.toList))) H)
theorem op_ltA : OpR X (compareOp .Lt) rLtA := OpR.or op_lt op_lt_str
def rGtA : R2 := fun x y H Q => (∃ i j, x = .int i ∧ y = .int j ∧ Q (.bl (decide (j < i))) H) ∨ (∃ i j, x = .str i ∧ y = .str j ∧ Q (.bl (decide (j.cps.toList < i.cps.toList))) H)
theorem op_gtA : OpR X (compareOp .Gt) rGtA := OpR.or op_gt op_gt_str
def rLeA : R2 := fun x y H Q => (∃ i j, x = .int i ∧ y = .int j ∧ Q (.bl (decide (i ≤ j))) H) ∨ (∃ i j, x = .str i ∧ y = .str j ∧ Q (.bl (!decide (j.cps.toList < i.cps.toList))) H)
theorem op_leA : OpR X (compareOp .LtE) rLeA := OpR.or op_le op_le_str
def rGeA : R2 := fun x y H Q => (∃ i j, x = .int i ∧ y = .int j ∧ Q (.bl (decide (j ≤ i))) H) ∨ (∃ i j, x = .str i ∧ y = .str j ∧ Q (.bl (!decide (i.cps.toList < j.cps.toList))) H)
theorem op_geA : OpR X (compareOp .GtE) rGeA := OpR.or op_ge op_ge_str
/-- +: ints, texts, lists, tuples -/
def rAddA (K : PySem.W.Frag) : R2 := fun x y H Q => (∃ i j, x = .int i ∧ y = .int j ∧ Q (.int (i + j)) H) ∨ (∃ i j, x = .str i ∧ y = .str j ∧ i.length + j.length ≤ sizeLine ∧ Q (.str (i ++ j)) H) ∨ rCat x y H Q ∨ rCatT K x y H Q
theorem op_addA : OpR X (binaryOp .Add) (rAddA X.K) := OpR.or op_add (OpR.or op_add_str (OpR.or op_cat op_catT))
def rSlA (K : PySem.W.Frag) : V → Option Int → Option Int → Hp → VK → Prop := fun x lo hi H Q => rSlL K x lo hi H Q ∨ rSlT K x lo hi H Q ∨ rSlS x lo hi H Q
theorem sl_any : SlR X (rSlA X.K) := SlR.or sl_list (SlR.or sl_tup sl_str)
theorem op_inA : OpR X (compareOp .In) (rIn X.K false) := op_in_seq
theorem op_notInA : OpR X (compareOp .NotIn) (rIn X.K true) := op_notIn_seq
theorem pe_notT' {a : Expr} {ta : TE} {pos : Pos} (ha : PE X a ta) : PE X (.UnaryOp .Not a pos) (tNotT X.K ta) := pe_notT ha
/-- min of two texts -/
def strItems (xs : Array (Str × Tok)) : Array Value := xs.map fun p => .str p.1 p.2
theorem min_two_strs {P : Program} {w : World} {A : Around} {E : Value → Shared → Prop} {s : Shared} {a b : Str} {t u : Tok} {Q : Value → Shared → Prop} (hh : A.handled = none)
    (h : ∀ h' tk, (∀ c o, s.heap.get? c = some o → h'.get? c = some o) → Q (if b.cps.toList < a.cps.toList then .str b u else .str a t) { s with heap := h', toks := tk }) :
    wpAny (model P w) A (call (.builtin "min") [.str a t, .str b u]) Q E s := by
  have hT : (s.heap.push { cls := .type "tuple", data := .seq #[.str a t, .str b u] }).IsTuple s.heap.objs.size #[.str a t, .str b u] := ⟨_, Heap.get?_push_size _ rfl, rfl, 0, rfl⟩
  refine call_min_two (wpAny_pyIter_tuple hT ?_)
  have hsz : (s.heap.push { cls := .type "tuple", data := .seq #[.str a t, .str b u] }).objs.size = s.heap.objs.size + 1 := Heap.size_push ..
  refine ⟨_, [_, s.heap.objs.size], [_], _, _, _, fun i j => decide ((if i = 0 then a else b).cps.toList < (if j = 0 then a else b).cps.toList), rfl, Walks.tuple (A := A.in1) hh _ s.heap.objs.size (by rw [hsz]; exact Nat.ne_of_lt (Nat.lt_succ_self _)) #[.str a t, .str b u],
    ⟨⟨_, Heap.get?_push_size _ rfl, rfl, rfl⟩, hT.push _⟩, fun c hc => ?_, (by show 0 < 2; decide), ?_, fun v h' tk hP hk => ?_⟩
  · show c < ((s.heap.push _).push _).objs.size
    rw [Heap.size_push, hsz]
    rcases List.mem_cons.mp hc with rfl | hc
    · rw [hsz]; exact Nat.lt_succ_self _
    · rcases List.mem_cons.mp hc with rfl | hc
      · exact Nat.lt_succ_of_lt (Nat.lt_succ_self _)
      · cases hc
  · intro i j vi vj s' Q' E' hi hj hq
    have two : ∀ (k : Nat) (v : Value), (#[Value.str a t, .str b u] : Array Value)[k]? = some v → ∃ tk, v = .str (if k = 0 then a else b) tk := fun k v e => by
      match k, e with
      | 0, e => exact ⟨t, (Option.some.inj e).symm⟩
      | 1, e => exact ⟨u, (Option.some.inj e).symm⟩
      | k + 2, e => cases e
    obtain ⟨t1, rfl⟩ := two i vi hi
    obtain ⟨t2, rfl⟩ := two j vj hj
    exact lt_str hq
  · have hold : ∀ c o, s.heap.get? c = some o → h'.get? c = some o := fun c o e => by
      refine hk c o (fun hm => ?_) (Heap.get?_push_of_some _ (Heap.get?_push_of_some _ e))
      rcases List.mem_cons.mp hm with e1 | hm
      · have := Heap.lt_size e; rw [e1, hsz] at this; exact Nat.lt_irrefl _ (Nat.lt_of_succ_lt this)
      · cases hm
    have hv : v = if b.cps.toList < a.cps.toList then Value.str b u else Value.str a t := by
      have hP' : (#[Value.str a t, .str b u] : Array Value)[argBest (fun i j => decide ((if i = 0 then a else b).cps.toList < (if j = 0 then a else b).cps.toList)) 1]? = some v := hP
      by_cases hba : b.cps.toList < a.cps.toList
      · rw [if_pos hba]
        have e : argBest (fun i j => decide ((if i = 0 then a else b).cps.toList < (if j = 0 then a else b).cps.toList)) 1 = 1 := by
          simp [argBest, hba]
        rw [e] at hP'
        exact (Option.some.inj hP').symm
      · rw [if_neg hba]
        have e : argBest (fun i j => decide ((if i = 0 then a else b).cps.toList < (if j = 0 then a else b).cps.toList)) 1 = 0 := by
          simp [argBest, hba]
        rw [e] at hP'
        exact (Option.some.inj hP').symm
    rw [hv]
    exact h h' tk hold
def rMin2 : List V → Hp → VK → Prop := fun xs H Q => (∃ i j, xs = [.int i, .int j] ∧ Q (.int (if j < i then j else i)) H) ∨ (∃ i j, xs = [.str i, .str j] ∧ Q (.str (if j.cps.toList < i.cps.toList then j else i)) H)
theorem call_minS2 (hc : X.calm = true) : CallR X (.builtin "min") rMin2 := by
  refine CallR.or (call_min2 hc) ?_
  intro pins s σ H xs us Q I r h
  obtain ⟨i, j, rfl, q⟩ := h
  obtain ⟨u, w', rfl, ⟨t, rfl⟩, ⟨t', rfl⟩⟩ := vals2 r
  refine min_two_strs (I.ok.hd hc) fun h' tk k => ⟨_, H, I.kept k, ?_, q⟩
  by_cases hj : j.cps.toList < i.cps.toList
  · rw [if_pos hj, if_pos hj]; exact ⟨_, rfl⟩
  · rw [if_neg hj, if_neg hj]; exact ⟨_, rfl⟩
end
theorem line_lt {n : Nat} (h : n ≤ 100000) : n < sizeLine := Nat.lt_of_le_of_lt h (by decide)
theorem line_le {n : Nat} (h : n ≤ 100000) : n ≤ sizeLine := Nat.le_of_lt (line_lt h)
/-! ### steps -/
theorem tC_i {v : V} {σ : L2.St} {H : Hp} {Q : VK} (h : Q v H) : tC v σ H Q := h
theorem tCons_i {σ : L2.St} {H : Hp} {Q : List V → Hp → Prop} {ta : TE} {tr : TA} (h : ta σ H fun x H1 => tr σ H1 fun xs H2 => Q (x :: xs) H2) : tCons ta tr σ H Q := h
theorem tNil_i {σ : L2.St} {H : Hp} {Q : List V → Hp → Prop} (h : Q [] H) : tNil σ H Q := h
/-! ### items -/
theorem ixN_of {n : Nat} {k : Int} (h0 : 0 ≤ k) (h1 : k < n) : ixN n k = some k.toNat := by
  unfold ixN
  rw [if_pos h0, if_pos h1]
theorem atI_of {α : Type} {xs : List α} {k : Int} {v : α} (h0 : 0 ≤ k) (e : xs[k.toNat]? = some v) : atI xs k = some v := by
  have z : k = ((k.toNat : Nat) : Int) := by omega
  rw [z]
  exact atI_nat e
section
variable {K : PySem.W.Frag} {H : Hp} {p : Addr} {xs : List V} {k : Int} {v : V} {Q : VK}
theorem ixL (h : H p = some (.lst xs)) (h0 : 0 ≤ k) (e : xs[k.toNat]? = some v) (q : Q v H) : rIx K (.ref p) (.int k) H Q := .inl ⟨p, xs, k, v, rfl, rfl, SqL.of h, atI_of h0 e, q⟩
theorem ixT (h : H p = some (.tup xs)) (h0 : 0 ≤ k) (e : xs[k.toNat]? = some v) (q : Q v H) : rIx K (.ref p) (.int k) H Q := .inr (.inl ⟨p, xs, k, v, rfl, rfl, SqT.of h, atI_of h0 e, q⟩)
theorem ixS {z : Str} {c : Nat} (hz : z.length ≤ sizeLine) (h0 : 0 ≤ k) (e : z.cps.toList[k.toNat]? = some c) (q : Q (.str ⟨#[c]⟩) H) : rIx K (.str z) (.int k) H Q := .inr (.inr ⟨z, k, c, rfl, rfl, hz, atI_of h0 e, q⟩)
theorem setL {Q : Hp → Prop} (h : H p = some (.lst xs)) (h0 : 0 ≤ k) (h1 : k < xs.length) (q : Q (upd H p (.lst (xs.set k.toNat v)))) : rSetL (.ref p) (.int k) v H Q := ⟨p, xs, k, k.toNat, rfl, rfl, h, ixN_of h0 h1, q⟩
theorem set1 {a b c d : V} {Q : Hp → Prop} (h : H p = some (.lst [a, b, c, d])) (q : Q (upd H p (.lst [a, v, c, d]))) : rSetL (.ref p) (.int 1) v H Q := setL h (by decide) (by simp) q
theorem set2 {a b c d : V} {Q : Hp → Prop} (h : H p = some (.lst [a, b, c, d])) (q : Q (upd H p (.lst [a, b, v, d]))) : rSetL (.ref p) (.int 2) v H Q := setL h (by decide) (by simp) q
theorem set3 {a b c d : V} {Q : Hp → Prop} (h : H p = some (.lst [a, b, c, d])) (q : Q (upd H p (.lst [a, b, c, v]))) : rSetL (.ref p) (.int 3) v H Q := setL h (by decide) (by simp) q
theorem tyL (h : H p = some (.lst xs)) : tyV K "list" (.ref p) H := .inl ⟨rfl, _, SqL.of h⟩
theorem appL (h : H p = some (.lst xs)) (hz : xs.length < sizeLine) (q : Q .non (upd H p (.lst (xs ++ [v])))) : rAppend (.ref p) [v] H Q := ⟨p, xs, v, rfl, rfl, h, hz, q⟩
theorem lenL (h : H p = some (.lst xs)) : LenV K (.ref p) H xs.length := .inl ⟨xs, SqL.of h, rfl⟩
theorem lenT (h : H p = some (.tup xs)) : LenV K (.ref p) H xs.length := .inr ⟨xs, SqT.of h, rfl⟩
end
/-! ### the rules with the written part by name (a comprehension's block has it too) -/
section
variable {X : Cx} {K : PySem.W.Frag}
theorem ix_seqK (hK : X.K = K) : IxR X (rIx K) := by subst hK; exact ix_seq
theorem sl_anyK (hK : X.K = K) : SlR X (rSlA K) := by subst hK; exact sl_any
theorem op_eqDK (hK : X.K = K) (hu : X.A.units + 64 < cLine) : OpR X (compareOp .Eq) (rEqD K) := by subst hK; exact op_eqD hu
theorem op_neDK (hK : X.K = K) (hu : X.A.units + 64 < cLine) : OpR X (compareOp .NotEq) (rNeD K) := by subst hK; exact op_neD hu
theorem op_addAK (hK : X.K = K) : OpR X (binaryOp .Add) (rAddA K) := by subst hK; exact op_addA
theorem op_inAK (hK : X.K = K) : OpR X (compareOp .In) (rIn K false) := by subst hK; exact op_inA
theorem op_notInAK (hK : X.K = K) : OpR X (compareOp .NotIn) (rIn K true) := by subst hK; exact op_notInA
def rLen (K : PySem.W.Frag) : List V → Hp → VK → Prop := fun xs H Q => ∃ x n, xs = [x] ∧ LenV K x H n ∧ Q (.int (n : Nat)) H
theorem call_lenK (hK : X.K = K) : CallR X (.builtin "len") (rLen K) := by subst hK; exact call_len
theorem call_isiK' (hK : X.K = K) : CallR X (.builtin "isinstance") (rIsi K) := by subst hK; exact call_isi
theorem cr_sortedSK (hK : X.K = K) : CallR X (.builtin "sorted") (rSortedS K) := by subst hK; exact cr_sortedS
def rListOf (K : PySem.W.Frag) : List V → Hp → VK → Prop := fun xs H Q => ∃ p ys, xs = [.ref p] ∧ (SqL K H p ys ∨ SqT K H p ys) ∧ ∀ l, H l = none → Q (.ref l) (upd H l (.lst ys))
theorem call_list_ofK (hK : X.K = K) : CallR X (.type "list") (rListOf K) := by subst hK; exact call_list_of
def rTupOf (K : PySem.W.Frag) : List V → Hp → VK → Prop := fun xs H Q => ∃ p ys, xs = [.ref p] ∧ ((SqL K H p ys ∧ ∀ l, H l = none → Q (.ref l) (upd H l (.tup ys))) ∨ SqT K H p ys ∧ Q (.ref p) H)
theorem call_tuple_ofK (hK : X.K = K) : CallR X (.type "tuple") (rTupOf K) := by subst hK; exact call_tuple_of
def rListA (K : PySem.W.Frag) : List V → Hp → VK → Prop := fun xs H Q => rListOf K xs H Q ∨ ∃ (a : Addr) (kvs : List (Key × V)), xs = [.ref a] ∧ Rd H a (.dK kvs) ∧ ∀ p, H p = none → Q (.ref p) (upd H p (.lst (kvs.map fun kv => kV kv.1)))
theorem call_listAK (hK : X.K = K) (hc : X.calm = true) : CallR X (.type "list") (rListA K) := CallR.or (call_list_ofK hK) (call_listD hc)
theorem pi_listK {tg l : Expr} {tl : TE} (hK : X.K = K) (hl : PE X l tl) : PI X tg l (iList K tl) := by subst hK; exact pi_list hl
theorem pi_tupK {tg l : Expr} {tl : TE} (hK : X.K = K) (hl : PE X l tl) : PI X tg l (iTup K tl) := by subst hK; exact pi_tup hl
theorem pi_reversedK {tg e : Expr} {ta : TA} {p pos : Pos} (hK : X.K = K) (hg : Gl X "reversed") (hm : X.mg "reversed" = none) (ha : PA X [e] ta) (hs : starEach [e] X.env = [(false, eval e X.env)] := by rfl) : PI X tg (.Call (.Name "reversed" p) [e] [] pos) (iRev K ta) := by
  subst hK; exact pi_reversed hg hm ha hs
theorem pt_truthK {a : Expr} {ta : TE} (hK : X.K = K) (ha : PE X a ta) (he : ∀ whole, isTrue a X.env whole = (do let v ← whole; standAt a.pos; holding [v] (truthy v))) :
    PT X a (fun σ H Q => ta σ H fun x H' => ∃ k, TruV K x H' k ∧ Q k H') := by subst hK; exact pt_truth ha he
theorem pe_notTK {a : Expr} {ta : TE} {pos : Pos} (hK : X.K = K) (ha : PE X a ta) : PE X (.UnaryOp .Not a pos) (tNotT K ta) := by subst hK; exact pe_notT ha
theorem pg_tupK {es : List Expr} {k : Nat} {t : TGs} {n : Nat} {pos : Pos} (hK : X.K = K) (hc : X.calm = true) (h : PGs X es t)
    (hn : (assignEach es X.env).length = n := by rfl) (hst : (assignEach es X.env).findIdx? (·.1) = none := by rfl) : PG X (.Tuple es k pos) (gTup K n t) := by subst hK; exact pg_tup hc h hn hst
section
variable {o e : Expr} {es : List Expr} {to te : TE} {t : TA} {name : Str} {apos cpos : Pos} {T id : String} {r : V → List V → Hp → VK → Prop}
theorem pe_bm0K (hK : X.K = K) (pa : PlainAttrs T) (slot : Slot T name id) (hty : typeOf (.builtin id) = Pure.pure (.type "method_descriptor")) (hm : MtR X id r) (ho : PE X o to)
    (hbase : attributeBase o name X.env (eval o X.env) = eval o X.env := by rfl) (hline : (apos.endLine == cpos.line) = true := by rfl) : PE X (.Call (.Attribute o name apos) [] [] cpos) (tBM0 K T r to) := by
  subst hK; exact pe_bm0 pa slot hty hm ho hbase hline
theorem pe_bmK (hK : X.K = K) (pa : PlainAttrs T) (slot : Slot T name id) (hty : typeOf (.builtin id) = Pure.pure (.type "method_descriptor")) (hm : MtR X id r) (ho : PE X o to) (ha : PA X (e :: es) t)
    (hbase : attributeBase o name X.env (eval o X.env) = eval o X.env := by rfl)
    (hfew : ((backTo cpos (starEach (e :: es) X.env)).all (fun x => !x.1) && (backToKw cpos (keywordEach [] X.env)).all (fun x => x.1.isSome)
      && decide ((e :: es).length + ([] : List Keyword).length + (if ([] : List Keyword).isEmpty then 0 else 1) < 30)) = true := by rfl)
    (hline : (apos.endLine == cpos.line) = true := by rfl) (hs : starEach (e :: es) X.env = (false, eval e X.env) :: starEach es X.env := by rfl) (hplain : (backTo cpos (starEach es X.env)).any (·.1) = false := by rfl) :
    PE X (.Call (.Attribute o name apos) (e :: es) [] cpos) (tBM K T r to t) := by
  subst hK; exact pe_bm pa slot hty hm ho ha hbase hfew hline hs hplain
def rJoin (K : PySem.W.Frag) : V → List V → Hp → VK → Prop := fun x xs H Q => ∃ a p, ∃ ys : List Str, x = .str a ∧ xs = [.ref p] ∧ (SqL K H p (ys.map V.str) ∨ SqT K H p (ys.map V.str)) ∧
      (ys.map (·.length)).sum + ys.length * a.length ≤ 16777216 ∧ Q (.str (Txt.join a ys)) H
theorem pe_joinK (hK : X.K = K) (ho : PE X o to) (he : PE X e te) (hs : starEach [e] X.env = [(false, eval e X.env)] := by rfl) (hbase : attributeBase o "join" X.env (eval o X.env) = eval o X.env := by rfl) (hline : (apos.endLine == cpos.line) = true := by rfl) :
    PE X (.Call (.Attribute o "join" apos) [e] [] cpos) (tM1 (rJoin K) to te) := by
  subst hK; exact pe_join ho he hs hbase hline
end
end
theorem perm_erase {d : PyData} : ∀ {rem : List PyData} {k : Nat}, rem[k]? = some d → (d :: rem.eraseIdx k).Perm rem
  | [], _, h => by simp at h
  | x :: r, 0, h => by
    have e : x = d := Option.some.inj h
    subst e
    exact List.Perm.refl _
  | x :: r, k + 1, h => by
    have ih := perm_erase (rem := r) (k := k) (by simpa using h)
    show (d :: x :: r.eraseIdx k).Perm (x :: r)
    exact (List.Perm.swap x d _).trans (ih.cons x)
theorem perm_turn {d : PyData} {acc rem ds : List PyData} {k : Nat} (h : rem[k]? = some d) (p : (acc ++ rem).Perm ds) : ((acc ++ [d]) ++ rem.eraseIdx k).Perm ds := by
  refine List.Perm.trans ?_ p
  rw [List.append_assoc]
  exact (perm_erase h).append_left acc
theorem popL {H : Hp} {p : Addr} {xs : List V} {k : Int} {v : V} {Q : VK} (h : H p = some (.lst xs)) (h0 : 0 ≤ k) (h1 : k < xs.length) (e : xs[k.toNat]? = some v) (hz : xs.length ≤ 100000) (q : Q v (upd H p (.lst (xs.eraseIdx k.toNat)))) : rPopAt (.ref p) [.int k] H Q :=
  ⟨p, xs, k, k.toNat, v, rfl, rfl, h, by omega, by omega, (ixN_seq (ixN_of h0 h1)).1, e, q⟩
theorem lcYes {σ : L2.St} {H : Hp} {te : TE} {C : VK} {C' : Hp → Prop} (h : te σ H C) : tYes σ H fun b H3 => if b = true then te σ H3 C else C' H3 := by
  show (if true = true then te σ H C else C' H)
  rw [if_pos rfl]
  exact h
theorem fn_none {P : Program} {w : World} {K : PySem.W.Frag} {mg : Str → Option Value} {base : Heap} {k : Nat} {f : Addr} {fd : FuncData} {ps : List Str} {sp : Sp} (no : ∀ vs H Q E, ¬ sp vs H Q E) : FnOk P w K mg base CX0 k f fd ps sp :=
  ⟨fun vs H Q E h => absurd h (no vs H Q E), fun A outer s H args us vs Q E _ _ _ _ h => absurd h (no vs H Q E)⟩
theorem slL {K : PySem.W.Frag} {H : Hp} {a : Addr} {xs : List V} {lo hi : Option Int} {Q : VK} (h : H a = some (.lst xs)) (q : ∀ p, H p = none → Q (.ref p) (upd H p (.lst (cutV xs lo hi)))) : rSlA K (.ref a) lo hi H Q := .inl ⟨a, xs, rfl, SqL.of h, q⟩
theorem cut_from (xs : List V) (k : Nat) : cutV xs (some (k : Int)) none = xs.drop k := by
  unfold cutV
  rw [HT.sIx_nat, HT.sIx_none]
  by_cases h : k ≤ xs.length
  · rw [Nat.min_eq_left h]
    exact List.take_of_length_le (by rw [List.length_drop]; exact Nat.le_refl _)
  · rw [Nat.min_eq_right (by omega), List.drop_length, List.drop_eq_nil_of_le (by omega), List.take_nil]
theorem cut_to (xs : List V) (k : Nat) : cutV xs none (some (k : Int)) = xs.take k := by
  unfold cutV
  rw [HT.sIx_nat, HT.sIx_none]
  by_cases h : k ≤ xs.length
  · rw [Nat.min_eq_left h]; rfl
  · rw [Nat.min_eq_right (by omega)]
    show (xs.drop 0).take (xs.length - 0) = _
    rw [List.drop_zero, Nat.sub_zero, List.take_length, List.take_of_length_le (by omega)]
theorem map_drop' {α β : Type} (f : α → β) (k : Nat) (xs : List α) : (xs.map f).drop k = (xs.drop k).map f := by rw [List.map_drop]
theorem map_take' {α β : Type} (f : α → β) (k : Nat) (xs : List α) : (xs.map f).take k = (xs.take k).map f := by rw [List.map_take]
/-! ### isinstance of data -/
def tyN : PyData → String
  | .none => "NoneType"
  | .bool _ => "bool"
  | .int _ => "int"
  | .str _ => "str"
  | .list _ => "list"
  | .tuple _ => "tuple"
  | .dict _ => "dict"
theorem tyX_of {K : PySem.W.Frag} {G H : Hp} (s : Same G H) : ∀ {d : PyData} {v : V}, Dat G v d → TyX K H v (.type (tyN d))
  | _, _, .non => .base .non
  | _, _, .bl b => .base (.bl b)
  | _, _, .int i => .base (.int i)
  | _, _, .str x => .base (.str x)
  | _, _, .lst e _ => .base (.lst (s _ _ e))
  | _, _, .tup e _ => .base (.tup (s _ _ e))
theorem isi_of {K : PySem.W.Frag} {G H : Hp} {v : V} {d : PyData} {c : String} {Q : VK} (b : Bool) (h : Dat G v d) (s : Same G H) (e : kitB (tyN d) c = some b) (q : Q (.bl b) H) : rIsi K [v, .ty c] H Q :=
  ⟨v, .ty c, .type (tyN d), .type c, b, rfl, .ty c, tyX_of s h, kit_ty e, q⟩
/-! ### == of data -/
theorem eqD_of {K : PySem.W.Frag} {G H : Hp} {x y : V} {d e : PyData} {Q : VK} (hx : Dat G x d) (hy : Dat G y e) (s : Same G H) (sd : SeqAt.shaped d = true) (se : SeqAt.shaped e = true) (q : Q (.bl (PyData.eqv d e)) H) : rEqD K x y H Q :=
  ⟨d, e, hx.dpS s, hy.dpS s, sd, se, q⟩
theorem neD_of {K : PySem.W.Frag} {G H : Hp} {x y : V} {d e : PyData} {Q : VK} (hx : Dat G x d) (hy : Dat G y e) (s : Same G H) (sd : SeqAt.shaped d = true) (se : SeqAt.shaped e = true) (q : Q (.bl (!PyData.eqv d e)) H) : rNeD K x y H Q :=
  ⟨d, e, hx.dpS s, hy.dpS s, sd, se, q⟩
theorem shaped_int (i : Int) : SeqAt.shaped (.int i) = true := rfl
theorem shaped_bool (i : Bool) : SeqAt.shaped (.bool i) = true := rfl
theorem eqD_int {K : PySem.W.Frag} {H : Hp} {i j : Int} {Q : VK} (q : Q (.bl (i == j)) H) : rEqD K (.int i) (.int j) H Q := ⟨.int i, .int j, .int _, .int _, rfl, rfl, q⟩
theorem neD_int {K : PySem.W.Frag} {H : Hp} {i j : Int} {Q : VK} (q : Q (.bl (!(i == j))) H) : rNeD K (.int i) (.int j) H Q := ⟨.int i, .int j, .int _, .int _, rfl, rfl, q⟩
theorem eqD_bl {K : PySem.W.Frag} {H : Hp} {i j : Bool} {Q : VK} (q : Q (.bl (i == j)) H) : rEqD K (.bl i) (.bl j) H Q := ⟨.bool i, .bool j, .bl _, .bl _, rfl, rfl, q⟩
theorem neD_bl {K : PySem.W.Frag} {H : Hp} {i j : Bool} {Q : VK} (q : Q (.bl (!(i == j))) H) : rNeD K (.bl i) (.bl j) H Q := ⟨.bool i, .bool j, .bl _, .bl _, rfl, rfl, q⟩
theorem shaped_str {s : Str} (h : PyData.strOk s = true) : SeqAt.shaped (.str s) = true := by
  show (PyData.strOk s && _) = true
  rw [h]
  rfl
theorem eqD_str {K : PySem.W.Frag} {H : Hp} {i j : Str} {Q : VK} (hi : PyData.strOk i = true) (hj : PyData.strOk j = true) (q : Q (.bl (i == j)) H) : rEqD K (.str i) (.str j) H Q := ⟨.str i, .str j, .str _, .str _, shaped_str hi, shaped_str hj, q⟩
theorem neD_str {K : PySem.W.Frag} {H : Hp} {i j : Str} {Q : VK} (hi : PyData.strOk i = true) (hj : PyData.strOk j = true) (q : Q (.bl (!(i == j))) H) : rNeD K (.str i) (.str j) H Q := ⟨.str i, .str j, .str _, .str _, shaped_str hi, shaped_str hj, q⟩
/-! ### in, of texts -/
theorem flat_strs : ∀ xs : List Str, (xs.map V.str).all flatV = true
  | [] => rfl
  | _ :: r => flat_strs r
theorem inV_strs (x : Str) : ∀ xs : List Str, inV (.str x) (xs.map V.str) = decide (x ∈ xs)
  | [] => by simp [inV]
  | y :: r => by
    have ih := inV_strs x r
    unfold inV at ih ⊢
    rw [List.map_cons, List.any_cons, ih]
    show ((y == x) || decide (x ∈ r)) = _
    by_cases e : y = x
    · subst e; simp
    · have e' : (y == x) = false := beq_eq_false_iff_ne.mpr e
      have e2 : x ≠ y := fun z => e z.symm
      rw [e']
      simp [e2]
theorem flat_ints : ∀ xs : List Int, (xs.map V.int).all flatV = true
  | [] => rfl
  | _ :: r => flat_ints r
theorem inV_ints (x : Int) : ∀ xs : List Int, inV (.int x) (xs.map V.int) = decide (x ∈ xs)
  | [] => by simp [inV]
  | y :: r => by
    have ih := inV_ints x r
    unfold inV at ih ⊢
    rw [List.map_cons, List.any_cons, ih]
    show ((y == x) || decide (x ∈ r)) = _
    by_cases e : y = x
    · subst e; simp
    · have e' : (y == x) = false := beq_eq_false_iff_ne.mpr e
      have e2 : x ≠ y := fun z => e z.symm
      rw [e']
      simp [e2]
/-! ### what a loop walks, by a count -/
structure WalkJ (J : It) (n : Nat) (x : Nat → V) (OK : Hp → Prop) : Prop where
  go : ∀ i H, OK H → i < n → J.go i H
  stop : ∀ i H, OK H → n ≤ i → J.stop i H
  yld : ∀ i H v H', OK H → i < n → J.yld i H v H' → H' = H ∧ v = x i
def nth (xs : List V) (i : Nat) : V := xs.getD i .non
theorem nth_at {xs : List V} {i : Nat} (h : i < xs.length) : xs[i]? = some (nth xs i) := by
  unfold nth
  rw [List.getD_eq_getElem?_getD, List.getElem?_eq_getElem h]
  rfl
theorem walk_range {lo : Int} {n : Nat} : WalkJ (Itr lo n) n (fun i => .int (lo + (i : Nat))) (fun _ => True) :=
  ⟨fun _ _ _ h => h, fun _ _ _ h => h, fun _ _ _ _ _ _ h => h⟩
theorem walk_list {K : PySem.W.Frag} {a : Addr} {xs : List V} : WalkJ (Itl K a) xs.length (nth xs) (fun H => H a = some (.lst xs)) :=
  ⟨fun i H ok h => ⟨xs, nth xs i, SqL.of ok, nth_at h⟩, fun i H ok h => ⟨xs, SqL.of ok, h⟩, fun i H v H' ok h y => ⟨y.1, Option.some.inj ((y.2 xs (SqL.of ok)).symm.trans (nth_at h))⟩⟩
theorem walk_tup {K : PySem.W.Frag} {a : Addr} {xs : List V} : WalkJ (Itt K a) xs.length (nth xs) (fun H => H a = some (.tup xs)) :=
  ⟨fun i H ok h => ⟨xs, nth xs i, SqT.of ok, nth_at h⟩, fun i H ok h => ⟨xs, SqT.of ok, h⟩, fun i H v H' ok h y => ⟨y.1, Option.some.inj ((y.2 xs (SqT.of ok)).symm.trans (nth_at h))⟩⟩
theorem walk_rev {K : PySem.W.Frag} {a : Addr} {xs : List V} : WalkJ (Itv K a xs.length) xs.length (fun i => nth xs (xs.length - 1 - i)) (fun H => H a = some (.lst xs)) :=
  ⟨fun i H ok h => ⟨h, xs, nth xs (xs.length - 1 - i), SqL.of ok, nth_at (by omega)⟩, fun i H ok h => h, fun i H v H' ok h y => ⟨y.1, Option.some.inj ((y.2 xs (SqL.of ok)).symm.trans (nth_at (by omega)))⟩⟩
/-- a comprehension whose items are data; P: what else is known, by the turn, the items, the heaps (an object made since must not matter) -/
theorem comp_go {J : It} {n : Nat} {x : Nat → V} {OK : Hp → Prop} {M : List Addr} {G H : Hp} {σ : L2.St} {vs : List Nat} {g : TG} {tt : TT} {te : TE} {Q : VK} (P : Nat → List PyData → Hp → Hp → Prop)
    (W : WalkJ J n x OK) (s : Same G H) (hn : n < sizeLine) (hM : ∀ m ∈ M, H m ≠ none) (ok : ∀ G' H', Ex M G H G' H' → OK H')
    (P0 : P 0 [] G H) (Pw : ∀ i acc G' H' D o, P i acc G' H' → H D = none → G' D = none → P i acc G' (upd H' D o)) (Pg : ∀ i acc G' H' D o, P i acc G' H' → H D = none → G' D = none → P i acc (upd G' D o) H')
    (stp : ∀ i acc G1 H1, i < n → Ex M G H G1 H1 → P i acc G1 H1 → ∀ (C : VK) (C' : Hp → Prop), (∀ y G2 H2 d, Ex M G1 H1 G2 H2 → Dat G2 y d → P (i + 1) (acc ++ [d]) G2 H2 → C y H2) → (∀ G2 H2, Ex M G1 H1 G2 H2 → P (i + 1) acc G2 H2 → C' H2) →
      g (x i) (wipe σ vs) H1 fun σ2 H2 => wipe σ2 vs = wipe σ vs ∧ tt σ2 H2 fun b H3 => if b = true then te σ2 H3 C else C' H3)
    (fin : ∀ G' H' r acc, Ex M G H G' H' → Dat G' r (.list acc) → acc.length ≤ n → P n acc G' H' → Q r H') :
    ∀ D, H D = none → ∃ W : Nat → Nat → Hp → Prop, (∃ m, W 0 m (upd H D (.lst []))) ∧ ∀ i m H, W i m H →
      (J.stop i H ∧ Q (.ref D) H) ∨ (J.go i H ∧ ∃ Nx : Hp → Prop, (∀ H', Nx H' → ∃ m', m' < m ∧ W (i + 1) m' H') ∧ ∀ x H', J.yld i H x H' → g x (wipe σ vs) H' fun σ2 H2 => wipe σ2 vs = wipe σ vs ∧ tt σ2 H2 fun b H3 =>
        if b = true then te σ2 H3 fun y H4 => ∃ acc, H4 D = some (.lst acc) ∧ acc.length < sizeLine ∧ Nx (upd H4 D (.lst (acc ++ [y]))) else Nx H3) := by
  intro D hD
  have gD : G D = none := s.free hD
  have nM : D ∉ M := fun z => hM D z hD
  refine ⟨fun i m H' => m = n - i ∧ i ≤ n ∧ ∃ G' acc xs, Ex M G H G' H' ∧ G' D = none ∧ H' D = some (.lst xs) ∧ DatA G' xs acc ∧ acc.length ≤ i ∧ P i acc G' H', ⟨n, by omega, Nat.zero_le _, G, [], [], (Ex.refl s).new hD, gD, upd_same, .nil, Nat.le_refl _, Pw _ _ _ _ _ _ P0 hD gD⟩, ?_⟩
  rintro i m H1 ⟨rfl, hi, G1, acc, xs, E1, g1, h1, da, ha, p⟩
  have o1 := ok _ _ E1
  by_cases hlt : i < n
  · refine .inr ⟨W.go i H1 o1 hlt, fun H' => i + 1 ≤ n ∧ ∃ G' acc xs, Ex M G H G' H' ∧ G' D = none ∧ H' D = some (.lst xs) ∧ DatA G' xs acc ∧ acc.length ≤ i + 1 ∧ P (i + 1) acc G' H', fun H' q => ⟨n - (i + 1), by omega, rfl, q⟩, fun v H' y => ?_⟩
    obtain ⟨e1, e2⟩ := W.yld i H1 v H' o1 hlt y
    subst e1 e2
    refine stp i acc G1 _ hlt E1 p _ _ (fun y G2 H2 d E2 dy p2 => ?_) fun G2 H2 E2 p2 => ?_
    · have g2 : G2 D = none := E2.out g1 h1
      have h2 : H2 D = some (.lst xs) := E2.at_ h1 nM
      refine ⟨xs, h2, Nat.lt_of_le_of_lt (by rw [da.len]; omega) hn, hlt, G2, acc ++ [d], xs ++ [y], (E1.trans E2).wr g2 (.inr hD), g2, upd_same, (da.up E2.gg).app (.cons dy .nil), by rw [List.length_append, List.length_singleton]; omega, Pw _ _ _ _ _ _ p2 hD g2⟩
    · exact ⟨hlt, G2, acc, xs, E1.trans E2, E2.out g1 h1, E2.at_ h1 nM, da.up E2.gg, by omega, p2⟩
  · have e : i = n := by omega
    subst e
    refine .inl ⟨W.stop _ _ o1 (Nat.le_refl _), ?_⟩
    exact fin (upd G1 D (.lst xs)) H1 _ acc (E1.fix g1 h1 hD) (Dat.newL da g1) ha (Pg _ _ _ _ _ _ p hD g1)
end EA
namespace EA
open PySem PySem.Spec PyProof.Rows L2
/-! ### texts in order -/
def slt (a b : Str) : Prop := a.cps.toList < b.cps.toList
instance (a b : Str) : Decidable (slt a b) := inferInstanceAs (Decidable (a.cps.toList < b.cps.toList))
theorem str_ext {a b : Str} (h : a.cps.toList = b.cps.toList) : a = b := by
  cases a; cases b
  simp only [Str.mk.injEq]
  exact Array.ext' h
theorem slt_irrefl (a : Str) : ¬ slt a a := List.lt_irrefl _
theorem slt_trans {a b c : Str} (h : slt a b) (k : slt b c) : slt a c := List.lt_trans h k
theorem slt_tri {a b : Str} (h : ¬ slt a b) (k : ¬ slt b a) : a = b := str_ext (List.le_antisymm (List.not_lt.mp k) (List.not_lt.mp h))
theorem slt_asymm {a b : Str} (h : slt a b) : ¬ slt b a := fun k => slt_irrefl _ (slt_trans h k)
theorem slt_ne {a b : Str} (h : slt a b) : a ≠ b := fun e => slt_irrefl b (by rw [e] at h; exact h)
/-! ### conditions -/
inductive C where
  | b (v : Bool)
  | nd (s : Str) (on off : C)
  deriving DecidableEq
def C.enc : C → PyData
  | .b v => .bool v
  | .nd s x y => .tuple [.str s, x.enc, y.enc]
def C.ev (f : Str → Bool) : C → Bool
  | .b v => v
  | .nd s x y => if f s then x.ev f else y.ev f
def C.no : C → C
  | .b v => .b (!v)
  | .nd s x y => .nd s x.no y.no
def C.formed (s : Str) (x y : C) : C := if x = y then x else .nd s x y
def C.side : C → Str → Bool → C
  | .b v, _, _ => .b v
  | .nd t x y, s, o => if t = s then (if o then x else y) else .nd t x y
def C.vars : C → List Str
  | .b _ => []
  | .nd s x y => s :: (x.vars ++ y.vars)
/-- of the one form, over these switches in this order -/
inductive OC : List Str → C → Prop where
  | leaf {ns : List Str} (v : Bool) : OC ns (.b v)
  | node {x : Str} {xs : List Str} {a b : C} : OC xs a → OC xs b → a ≠ b → OC (x :: xs) (.nd x a b)
  | skip {x : Str} {xs : List Str} {c : C} : OC xs c → OC (x :: xs) c
theorem C.no_no : ∀ c : C, c.no.no = c
  | .b v => by simp [C.no]
  | .nd s x y => by simp [C.no, C.no_no x, C.no_no y]
theorem C.ev_no (f : Str → Bool) : ∀ c : C, c.no.ev f = !c.ev f
  | .b v => rfl
  | .nd s x y => by
    show (if f s then x.no.ev f else y.no.ev f) = !(if f s then x.ev f else y.ev f)
    rw [C.ev_no f x, C.ev_no f y]
    split <;> rfl
theorem OC.no {ns : List Str} {c : C} (h : OC ns c) : OC ns c.no := by
  induction h with
  | leaf v => exact .leaf _
  | node _ _ ne ha hb => exact .node ha hb fun e => ne (by have z := congrArg C.no e; rwa [C.no_no, C.no_no] at z)
  | skip _ h => exact .skip h
theorem C.ev_formed (f : Str → Bool) (s : Str) (x y : C) : (C.formed s x y).ev f = if f s then x.ev f else y.ev f := by
  unfold C.formed
  split
  · rename_i e
    subst e
    split <;> rfl
  · rfl
theorem OC.formed {x : Str} {xs : List Str} {a b : C} (ha : OC xs a) (hb : OC xs b) : OC (x :: xs) (C.formed x a b) := by
  unfold C.formed
  split
  · exact .skip ha
  · rename_i e
    exact .node ha hb e
theorem C.ev_side (f : Str → Bool) (s : Str) (c : C) : c.ev f = if f s then (c.side s true).ev f else (c.side s false).ev f := by
  cases c with
  | b v => simp [C.side]
  | nd t x y =>
    unfold C.side
    by_cases e : t = s
    · subst e
      simp [C.ev]
    · simp [e]
theorem OC.app {ns : List Str} {c : C} (h : OC ns c) : ∀ pre : List Str, OC (pre ++ ns) c
  | [] => h
  | x :: r => .skip (OC.app h r)
theorem OC.bool_of {c : C} (h : OC [] c) : ∃ v, c = .b v := by
  cases h with
  | leaf v => exact ⟨v, rfl⟩
/-- where the first switch stands -/
theorem OC.split {ns : List Str} {s : Str} {x y : C} (h : OC ns (.nd s x y)) : ∃ pre ys, ns = pre ++ s :: ys ∧ OC ys x ∧ OC ys y ∧ x ≠ y := by
  generalize e : C.nd s x y = c at h
  induction h with
  | leaf v => cases e
  | node ha hb ne _ _ => cases e; exact ⟨[], _, rfl, ha, hb, ne⟩
  | @skip z xs c h ih =>
    obtain ⟨pre, ys, e1, r⟩ := ih e
    exact ⟨z :: pre, ys, by rw [e1]; rfl, r⟩
theorem OC.drop1 {x : Str} {xs : List Str} {s : Str} {a b : C} (h : OC (x :: xs) (.nd s a b)) (n : s ≠ x) : OC xs (.nd s a b) := by
  cases h with
  | node _ _ _ => exact absurd rfl n
  | skip h => exact h
theorem OC.dropn {s : Str} {a b : C} : ∀ {pre ys : List Str}, OC (pre ++ ys) (.nd s a b) → s ∉ pre → OC ys (.nd s a b)
  | [], _, h, _ => h
  | x :: r, ys, h, n => OC.dropn (pre := r) (h.drop1 fun e => n (by rw [e]; exact List.mem_cons_self)) fun m => n (List.mem_cons_of_mem _ m)
theorem OC.vars {ns : List Str} {c : C} (h : OC ns c) : ∀ s ∈ c.vars, s ∈ ns := by
  induction h with
  | leaf v => intro s hs; cases hs
  | @node x xs a b _ _ _ ha hb =>
    intro s hs
    rcases List.mem_cons.mp hs with e | hs
    · rw [e]; exact List.mem_cons_self
    · rcases List.mem_append.mp hs with hs | hs
      · exact List.mem_cons_of_mem _ (ha s hs)
      · exact List.mem_cons_of_mem _ (hb s hs)
  | skip _ ih => exact fun s hs => List.mem_cons_of_mem _ (ih s hs)
theorem C.ev_congr {f g : Str → Bool} : ∀ (c : C), (∀ s ∈ c.vars, f s = g s) → c.ev f = c.ev g
  | .b _, _ => rfl
  | .nd s x y, h => by
    show (if f s then x.ev f else y.ev f) = (if g s then x.ev g else y.ev g)
    rw [h s List.mem_cons_self, C.ev_congr x fun t ht => h t (List.mem_cons_of_mem _ (List.mem_append_left _ ht)), C.ev_congr y fun t ht => h t (List.mem_cons_of_mem _ (List.mem_append_right _ ht))]
def fset (f : Str → Bool) (s : Str) (o : Bool) : Str → Bool := fun t => if t = s then o else f t
theorem C.ev_fset {f : Str → Bool} {s : Str} {o : Bool} {c : C} (h : s ∉ c.vars) : c.ev (fset f s o) = c.ev f :=
  C.ev_congr c fun t ht => by
    unfold fset
    rw [if_neg fun e => h (by rw [← e]; exact ht)]
theorem OC.ev_fset {ns : List Str} {f : Str → Bool} {s : Str} {o : Bool} {c : C} (h : OC ns c) (n : s ∉ ns) : c.ev (fset f s o) = c.ev f := C.ev_fset fun m => n (h.vars s m)
/-- one set of settings, one form -/
theorem OC.uniq : ∀ {ns : List Str}, ns.Nodup → ∀ {c d : C}, OC ns c → OC ns d → (∀ f, c.ev f = d.ev f) → c = d
  | [], _, c, d, hc, hd, h => by
    obtain ⟨v, rfl⟩ := hc.bool_of
    obtain ⟨w, rfl⟩ := hd.bool_of
    exact congrArg C.b (h fun _ => true)
  | x :: xs, nd, c, d, hc, hd, h => by
    obtain ⟨nx, nd'⟩ := List.nodup_cons.mp nd
    have cof : ∀ {c : C}, OC (x :: xs) c → ∃ p q, OC xs p ∧ OC xs q ∧ (∀ f, c.ev f = if f x then p.ev f else q.ev f) ∧ c = C.formed x p q := fun {c} hc => by
      cases hc with
      | leaf v => exact ⟨.b v, .b v, .leaf v, .leaf v, fun f => by simp [C.ev], by simp [C.formed]⟩
      | @node _ _ a b ha hb ne => exact ⟨a, b, ha, hb, fun f => rfl, by simp [C.formed, ne]⟩
      | skip h => exact ⟨c, c, h, h, fun f => by simp, by simp [C.formed]⟩
    obtain ⟨p, q, hp, hq, e1, r1⟩ := cof hc
    obtain ⟨p', q', hp', hq', e2, r2⟩ := cof hd
    have ep : p = p' := OC.uniq nd' hp hp' fun f => by
      have z := h (fset f x true)
      rw [e1, e2] at z
      simp only [fset, if_true] at z
      have z1 := hp.ev_fset (f := f) (o := true) nx
      have z2 := hp'.ev_fset (f := f) (o := true) nx
      rw [← z1, ← z2]
      exact z
    have eq : q = q' := OC.uniq nd' hq hq' fun f => by
      have z := h (fset f x false)
      rw [e1, e2] at z
      simp only [fset, if_true, Bool.false_eq_true, if_false] at z
      have z1 := hq.ev_fset (f := f) (o := false) nx
      have z2 := hq'.ev_fset (f := f) (o := false) nx
      rw [← z1, ← z2]
      exact z
    rw [r1, r2, ep, eq]
/-- sorted names -/
structure NS (ns : List Str) : Prop where
  srt : ns.Pairwise slt
  ok : ∀ n ∈ ns, PyData.strOk n = true ∧ n.length ≤ 100
  few : ns.length ≤ 12
theorem pw_nodup {ns : List Str} (h : ns.Pairwise slt) : ns.Nodup := h.imp fun h => slt_ne h
theorem NS.nd {ns : List Str} (h : NS ns) : ns.Nodup := pw_nodup h.srt
theorem NS.suf {pre ns : List Str} (h : NS (pre ++ ns)) : NS ns :=
  ⟨(List.pairwise_append.mp h.srt).2.1, fun n m => h.ok n (List.mem_append_right _ m), by have := h.few; rw [List.length_append] at this; omega⟩
/-- the sides at the least first switch -/
theorem OC.sides {pre ys : List Str} {y : Str} (hn : NS (pre ++ y :: ys)) {c : C} (hc : OC (pre ++ y :: ys) c) (hm : ∀ s x z, c = .nd s x z → ¬ slt s y) : ∀ o, OC ys (c.side y o) := by
  intro o
  cases c with
  | b v => exact .leaf v
  | nd s x z =>
    have h1 := hm s x z rfl
    have srt := List.pairwise_append.mp hn.srt
    have npre : s ∉ pre := fun m => h1 (srt.2.2 s m y List.mem_cons_self)
    have h2 := hc.dropn npre
    show OC ys (if s = y then (if o then x else z) else .nd s x z)
    by_cases e : s = y
    · subst e
      rw [if_pos rfl]
      have nys : s ∉ ys := fun m => slt_irrefl s ((List.pairwise_cons.mp srt.2.1).1 s m)
      cases h2 with
      | node ha hb _ =>
        cases o with
        | true => exact ha
        | false => exact hb
      | skip h =>
        obtain ⟨p, q, e, _⟩ := h.split
        exact absurd (by rw [e]; simp) nys
    · rw [if_neg e]
      exact h2.drop1 e
theorem OC.mins {ns : List Str} (hn : NS ns) {t t2 : Str} {x y x2 y2 : C} (hc : OC ns (.nd t x y)) (hd : OC ns (.nd t2 x2 y2)) (m : Str) (hm : m = if t2.cps.toList < t.cps.toList then t2 else t) :
    ∃ pre ys, ns = pre ++ m :: ys ∧ (∀ o, OC ys (C.side (.nd t x y) m o)) ∧ ∀ o, OC ys (C.side (.nd t2 x2 y2) m o) := by
  by_cases h : t2.cps.toList < t.cps.toList
  · rw [if_pos h] at hm
    subst hm
    obtain ⟨pre, ys, rfl, _⟩ := hd.split
    exact ⟨pre, ys, rfl, hc.sides hn (fun s a b e => by cases e; exact slt_asymm h), hd.sides hn (fun s a b e => by cases e; exact slt_irrefl _)⟩
  · rw [if_neg h] at hm
    subst hm
    obtain ⟨pre, ys, rfl, _⟩ := hc.split
    exact ⟨pre, ys, rfl, hc.sides hn (fun s a b e => by cases e; exact slt_irrefl _), hd.sides hn (fun s a b e => by cases e; exact h)⟩
/-! ### what the data must be for == -/
theorem C.depth_le {ns : List Str} {c : C} (h : OC ns c) : c.enc.depth ≤ ns.length := by
  induction h with
  | leaf v => exact Nat.zero_le _
  | @node x xs a b _ _ _ ha hb =>
    show max (PyData.depth (.str x)) (max a.enc.depth (max b.enc.depth 0)) + 1 ≤ _
    have : PyData.depth (.str x) = 0 := rfl
    rw [List.length_cons]
    omega
  | skip _ ih => rw [List.length_cons]; omega
theorem C.canLay {ns : List Str} {c : C} (h : OC ns c) (k : ∀ n ∈ ns, PyData.strOk n = true) : c.enc.canLay0 = true := by
  induction h with
  | leaf v => rfl
  | @node x xs a b _ _ _ ha hb =>
    show (PyData.canLay0 (.str x) && (a.enc.canLay0 && (b.enc.canLay0 && true))) = true
    rw [ha fun n m => k n (List.mem_cons_of_mem _ m), hb fun n m => k n (List.mem_cons_of_mem _ m)]
    have : PyData.canLay0 (.str x) = PyData.strOk x := rfl
    rw [this, k x List.mem_cons_self]
    rfl
  | skip _ ih => exact ih fun n m => k n (List.mem_cons_of_mem _ m)
theorem OC.shaped {ns : List Str} {c : C} (h : OC ns c) (n : NS ns) : SeqAt.shaped c.enc = true := by
  show (c.enc.canLay0 && decide (c.enc.depth ≤ 64)) = true
  have d := C.depth_le h
  have f := n.few
  rw [C.canLay h fun x m => (n.ok x m).1, decide_eq_true (by omega)]
  rfl
theorem C.eqv_iff : ∀ c d : C, PyData.eqv c.enc d.enc = decide (c = d)
  | .b v, .b w => by
    show (v == w) = _
    cases v <;> cases w <;> rfl
  | .b v, .nd _ _ _ => rfl
  | .nd _ _ _, .b v => rfl
  | .nd s x y, .nd t z w => by
    show ((s == t) && (PyData.eqv x.enc z.enc && (PyData.eqv y.enc w.enc && true))) = _
    rw [C.eqv_iff x z, C.eqv_iff y w]
    by_cases e1 : s = t
    · by_cases e2 : x = z
      · by_cases e3 : y = w
        · simp [e1, e2, e3]
        · simp [e1, e2, e3]
      · simp [e1, e2]
    · simp [e1]
theorem Dat.enc_b {G : Hp} {v : V} {c : C} (h : Dat G v c.enc) (e : v = .bl true ∨ v = .bl false ∨ ∃ a, v = .ref a) : True := trivial
theorem Dat.c_inv {G : Hp} {v : V} {c : C} (h : Dat G v c.enc) : (∃ b, c = .b b ∧ v = .bl b) ∨ (∃ s x y a vx vy, c = .nd s x y ∧ v = .ref a ∧ G a = some (.tup [.str s, vx, vy]) ∧ Dat G vx x.enc ∧ Dat G vy y.enc) := by
  cases c with
  | b b => exact .inl ⟨b, rfl, h.bool_inv⟩
  | nd s x y =>
    obtain ⟨a, xs, rfl, e, da⟩ := Dat.tup_inv (show Dat G v (.tuple [.str s, x.enc, y.enc]) from h)
    cases da with
    | cons h1 t1 =>
      cases t1 with
      | cons h2 t2 =>
        cases t2 with
        | cons h3 t3 =>
          cases t3
          have e1 := h1.str_inv
          subst e1
          exact .inr ⟨s, x, y, a, _, _, rfl, rfl, e, h2, h3⟩
/-! ### keys of a dict, sorted texts -/
theorem keys_put {s : Str} {v : V} : ∀ {kvs : List (Key × V)} {ks : List Str}, kvs.map (·.1) = ks.map Sum.inr → (putK kvs (.inr s) v).map (·.1) = (if s ∈ ks then ks else ks ++ [s]).map Sum.inr := by
  intro kvs ks h
  have hany : (kvs.any fun kv => decide (kv.1 = Sum.inr s)) = decide (s ∈ ks) := by
    have e1 : (kvs.any fun kv => decide (kv.1 = Sum.inr s)) = ((kvs.map (·.1)).any fun k => decide (k = Sum.inr s)) := by
      rw [List.any_map]; rfl
    rw [e1, h, List.any_map]
    rw [Bool.eq_iff_iff, List.any_eq_true, decide_eq_true_iff]
    constructor
    · rintro ⟨t, ht, e⟩
      have e2 : (Sum.inr t : Key) = Sum.inr s := of_decide_eq_true e
      have e3 : t = s := Sum.inr.inj e2
      rw [← e3]; exact ht
    · intro m
      exact ⟨s, m, decide_eq_true rfl⟩
  unfold putK
  rw [hany]
  by_cases m : s ∈ ks
  · rw [if_pos (decide_eq_true m), if_pos m, List.map_map, ← h]
    refine List.map_congr_left fun kv _ => ?_
    show (if kv.1 = Sum.inr s then (kv.1, v) else kv).1 = kv.1
    split <;> rfl
  · rw [if_neg (by rw [decide_eq_false m]; exact Bool.false_ne_true), if_neg m, List.map_append, h, List.map_append]
    rfl
theorem nodup_len [DecidableEq Str] : ∀ {l m : List Str}, l.Nodup → (∀ x ∈ l, x ∈ m) → l.length ≤ m.length
  | [], _, _, _ => Nat.zero_le _
  | x :: r, m, nd, h => by
    obtain ⟨nx, nd'⟩ := List.nodup_cons.mp nd
    have hx := h x List.mem_cons_self
    have ih := nodup_len (l := r) (m := m.erase x) nd' fun y hy => by
      have hne : y ≠ x := fun e => nx (by rw [← e]; exact hy)
      exact (List.mem_erase_of_ne hne).mpr (h y (List.mem_cons_of_mem _ hy))
    rw [List.length_erase_of_mem hx] at ih
    have : 0 < m.length := List.length_pos_of_mem hx
    rw [List.length_cons]
    omega
theorem rising_pw : ∀ {p : Str} {ss : List Str}, risingS p ss = true → (∀ x ∈ ss, ¬ slt x p) ∧ ss.Pairwise fun a b => ¬ slt b a
  | p, [], _ => ⟨fun x h => (nomatch h), .nil⟩
  | p, x :: r, h => by
    have h' : (!ltCps x.cps.toList p.cps.toList && risingS x r) = true := h
    rw [ltCps_eq, Bool.and_eq_true] at h'
    obtain ⟨h1, h2⟩ := h'
    have h1' : ¬ slt x p := by
      intro z
      rw [decide_eq_true (show x.cps.toList < p.cps.toList from z)] at h1
      cases h1
    obtain ⟨i1, i2⟩ := rising_pw h2
    refine ⟨fun y hy => ?_, .cons (fun y hy => i1 y hy) i2⟩
    rcases List.mem_cons.mp hy with e | hy
    · rw [e]; exact h1'
    · intro z
      -- y < p, and neither y < x nor x < p
      have a := i1 y hy
      by_cases hxy : slt x y
      · exact h1' (slt_trans hxy z)
      · have e : x = y := slt_tri hxy a
        rw [← e] at z
        exact h1' z
theorem sorted_pw {ss : List Str} (h : sortedS ss = true) : ss.Pairwise fun a b => ¬ slt b a := by
  cases ss with
  | nil => exact .nil
  | cons x r =>
    obtain ⟨i1, i2⟩ := rising_pw (p := x) (ss := r) h
    exact .cons (fun y hy => i1 y hy) i2
theorem sorted_strict {ss ks : List Str} (h : sortedS ss = true) (p : ss.Perm ks) (nd : ks.Nodup) : ss.Pairwise slt := by
  have nd' : ss.Nodup := (p.nodup_iff).mpr nd
  have h1 := sorted_pw h
  refine List.Pairwise.imp₂ ?_ h1 nd'
  intro a b x y
  by_cases z : slt a b
  · exact z
  · exact absurd (slt_tri z x) y
/-- strictly sorted lists with the same members are one -/
theorem sorted_uniq : ∀ {xs ys : List Str}, xs.Pairwise slt → ys.Pairwise slt → (∀ s, s ∈ xs ↔ s ∈ ys) → xs = ys
  | [], [], _, _, _ => rfl
  | [], y :: r, _, _, h => absurd ((h y).mpr List.mem_cons_self) (fun z => nomatch z)
  | x :: r, [], _, _, h => absurd ((h x).mp List.mem_cons_self) (fun z => nomatch z)
  | x :: r, y :: q, hx, hy, h => by
    obtain ⟨x1, x2⟩ := List.pairwise_cons.mp hx
    obtain ⟨y1, y2⟩ := List.pairwise_cons.mp hy
    have e : x = y := by
      rcases List.mem_cons.mp ((h x).mp List.mem_cons_self) with e | m
      · exact e
      · rcases List.mem_cons.mp ((h y).mpr List.mem_cons_self) with e | m2
        · exact e.symm
        · exact absurd (slt_trans (y1 x m) (x1 y m2)) (slt_irrefl _)
    subst e
    rw [sorted_uniq x2 y2 fun s => ⟨fun m => ?_, fun m => ?_⟩]
    · rcases List.mem_cons.mp ((h s).mp (List.mem_cons_of_mem _ m)) with e | m2
      · rw [e] at m; exact absurd (x1 x m) (slt_irrefl _)
      · exact m2
    · rcases List.mem_cons.mp ((h s).mpr (List.mem_cons_of_mem _ m)) with e | m2
      · rw [e] at m; exact absurd (y1 x m) (slt_irrefl _)
      · exact m2
def C.size : C → Nat
  | .b _ => 1
  | .nd _ x y => x.size + y.size + 1
theorem C.size_pos : ∀ c : C, 0 < c.size
  | .b _ => Nat.zero_lt_one
  | .nd _ _ _ => Nat.succ_pos _
theorem OC.size_lt {ns : List Str} {c : C} (h : OC ns c) : c.size < 2 ^ (ns.length + 1) := by
  induction h with
  | @leaf ns v =>
    have : 0 < 2 ^ ns.length := Nat.two_pow_pos _
    show 1 < _
    rw [Nat.pow_succ]
    omega
  | @node x xs a b _ _ _ ha hb =>
    show a.size + b.size + 1 < _
    rw [List.length_cons, Nat.pow_succ]
    omega
  | @skip x xs c _ ih =>
    rw [List.length_cons, Nat.pow_succ]
    omega
theorem OC.size_few {ns : List Str} {c : C} (h : OC ns c) (n : NS ns) : c.size ≤ 10000 := by
  have a := h.size_lt
  have b : 2 ^ (ns.length + 1) ≤ 2 ^ 13 := Nat.pow_le_pow_right (by decide) (by have := n.few; omega)
  have d : (2 : Nat) ^ 13 = 8192 := by decide
  omega
end EA
namespace EA
open PySem PySem.Spec PyProof.Rows L2
/-! ### the settings by their numbers -/
def asg : List Str → Nat → Str → Bool
  | [], _, _ => false
  | x :: xs, k, s => if s = x then decide (k / 2 ^ xs.length % 2 = 1) else asg xs k s
theorem div_mod_add {a m k q : Nat} (h : q < a) : (2 ^ a * m + k) / 2 ^ q % 2 = k / 2 ^ q % 2 := by
  have e : 2 ^ a = 2 ^ q * (2 * 2 ^ (a - q - 1)) := by
    rw [← Nat.pow_succ', ← Nat.pow_add]
    congr 1
    omega
  rw [e, Nat.mul_assoc, Nat.add_comm, Nat.add_mul_div_left _ _ (Nat.two_pow_pos q), Nat.mul_assoc, Nat.add_mul_mod_self_left]
theorem asg_add (m : Nat) : ∀ (xs : List Str) (a k : Nat) (s : Str), xs.length ≤ a → asg xs (2 ^ a * m + k) s = asg xs k s
  | [], _, _, _, _ => rfl
  | x :: xs, a, k, s, h => by
    rw [List.length_cons] at h
    show (if s = x then _ else _) = if s = x then _ else _
    rw [div_mod_add (by omega), asg_add m xs a k s (by omega)]
theorem asg_at {s : Str} : ∀ {ns : List Str} {j k : Nat}, ns.Nodup → ns[j]? = some s → asg ns k s = decide (k / 2 ^ (ns.length - 1 - j) % 2 = 1)
  | [], _, _, _, h => by simp at h
  | x :: xs, 0, k, nd, h => by
    have e : x = s := Option.some.inj h
    subst e
    show (if x = x then _ else _) = _
    rw [if_pos rfl, List.length_cons, Nat.add_sub_cancel, Nat.sub_zero]
  | x :: xs, j + 1, k, nd, h => by
    obtain ⟨nx, nd'⟩ := List.nodup_cons.mp nd
    have h' : xs[j]? = some s := by simpa using h
    have ne : s ≠ x := fun e => nx (by rw [← e]; exact List.mem_of_getElem? h')
    show (if s = x then _ else _) = _
    rw [if_neg ne, asg_at nd' h', List.length_cons]
    have z : xs.length + 1 - 1 - (j + 1) = xs.length - 1 - j := by omega
    rw [z]
/-- the number of a setting -/
def idx : List Str → (Str → Bool) → Nat
  | [], _ => 0
  | x :: xs, f => (if f x then 2 ^ xs.length else 0) + idx xs f
theorem idx_lt : ∀ (ns : List Str) (f : Str → Bool), idx ns f < 2 ^ ns.length
  | [], _ => Nat.zero_lt_one
  | x :: xs, f => by
    have ih := idx_lt xs f
    show (if f x then 2 ^ xs.length else 0) + idx xs f < _
    rw [List.length_cons, Nat.pow_succ]
    split <;> omega
theorem asg_idx : ∀ {ns : List Str} {f : Str → Bool}, ns.Nodup → ∀ s ∈ ns, asg ns (idx ns f) s = f s
  | [], _, _, s, h => nomatch h
  | x :: xs, f, nd, s, h => by
    obtain ⟨nx, nd'⟩ := List.nodup_cons.mp nd
    have ih := idx_lt xs f
    have p := Nat.two_pow_pos xs.length
    show (if s = x then decide (((if f x then 2 ^ xs.length else 0) + idx xs f) / 2 ^ xs.length % 2 = 1) else asg xs ((if f x then 2 ^ xs.length else 0) + idx xs f) s) = f s
    by_cases e : s = x
    · rw [if_pos e, e]
      cases hf : f x with
      | true =>
        simp only [if_true]
        rw [Nat.add_div_left _ p, Nat.div_eq_of_lt ih]
        rfl
      | false =>
        simp only [Bool.false_eq_true, if_false, Nat.zero_add]
        rw [Nat.div_eq_of_lt ih]
        rfl
    · rw [if_neg e]
      have hs : s ∈ xs := (List.mem_cons.mp h).resolve_left e
      have ihs := asg_idx (f := f) nd' s hs
      split
      · have z := asg_add 1 xs xs.length (idx xs f) s (Nat.le_refl _)
        rw [Nat.mul_one] at z
        rw [z]
        exact ihs
      · rw [Nat.zero_add]
        exact ihs
/-- the truth row of a condition -/
structure Rep (ns : List Str) (c : C) (row : List Bool) : Prop where
  oc : OC ns c
  len : row.length = 2 ^ ns.length
  at_ : ∀ k, k < 2 ^ ns.length → row[k]? = some (c.ev (asg ns k))
theorem ev_idx {ns : List Str} {c : C} (h : OC ns c) (nd : ns.Nodup) (f : Str → Bool) : c.ev f = c.ev (asg ns (idx ns f)) :=
  C.ev_congr c fun s hs => (asg_idx nd s (h.vars s hs)).symm
theorem Rep.all {ns : List Str} {c : C} {row : List Bool} (h : Rep ns c row) (nd : ns.Nodup) {d : C} (hd : OC ns d) (e : ∀ k, k < 2 ^ ns.length → c.ev (asg ns k) = d.ev (asg ns k)) : c = d :=
  OC.uniq nd h.oc hd fun f => by rw [ev_idx h.oc nd, ev_idx hd nd]; exact e _ (idx_lt ns f)
theorem Rep.uniq {ns : List Str} {c d : C} {row : List Bool} (nd : ns.Nodup) (h : Rep ns c row) (k : Rep ns d row) : c = d :=
  h.all nd k.oc fun i hi => Option.some.inj ((h.at_ i hi).symm.trans (k.at_ i hi))
theorem rep_of {ns : List Str} {c : C} (h : OC ns c) (g : Nat → Bool) (e : ∀ k, k < 2 ^ ns.length → c.ev (asg ns k) = g k) : Rep ns c ((List.range (2 ^ ns.length)).map g) :=
  ⟨h, by rw [List.length_map, List.length_range], fun k hk => by rw [List.getElem?_map, List.getElem?_range hk, e k hk]; rfl⟩
/-- a switch and the rows of both sides -/
theorem Rep.form {x : Str} {xs : List Str} {a b : C} {r1 r2 : List Bool} (ha : Rep xs a r1) (hb : Rep xs b r2) (nx : x ∉ xs) : Rep (x :: xs) (C.formed x b a) (r1 ++ r2) := by
  have p := Nat.two_pow_pos xs.length
  refine ⟨OC.formed hb.oc ha.oc, by rw [List.length_append, ha.len, hb.len, List.length_cons, Nat.pow_succ]; omega, fun k hk => ?_⟩
  rw [List.length_cons, Nat.pow_succ] at hk
  rw [C.ev_formed]
  have ax : ∀ k s, asg (x :: xs) k s = if s = x then decide (k / 2 ^ xs.length % 2 = 1) else asg xs k s := fun k s => rfl
  have cut : ∀ (c : C), OC xs c → ∀ k, c.ev (asg (x :: xs) k) = c.ev (asg xs k) := fun c hc k => C.ev_congr c fun s hs => by
    rw [ax, if_neg fun e => nx (by rw [← e]; exact hc.vars s hs)]
  rw [cut _ ha.oc, cut _ hb.oc, ax, if_pos rfl]
  by_cases h : k < 2 ^ xs.length
  · rw [List.getElem?_append_left (by rw [ha.len]; exact h), ha.at_ k h, Nat.div_eq_of_lt h]
    rfl
  · have hk2 : k - 2 ^ xs.length < 2 ^ xs.length := by omega
    rw [List.getElem?_append_right (by rw [ha.len]; omega), ha.len, hb.at_ _ hk2]
    have e1 : k = 2 ^ xs.length * 1 + (k - 2 ^ xs.length) := by omega
    have e2 : k / 2 ^ xs.length = 1 := by
      rw [e1, Nat.add_comm, Nat.add_mul_div_left _ _ p, Nat.div_eq_of_lt hk2]
    rw [e2]
    simp only [Nat.mod_eq_of_lt (show 1 < 2 by decide), decide_true, if_true]
    congr 1
    refine C.ev_congr b fun s hs => ?_
    conv => rhs; rw [e1]
    rw [asg_add 1 xs xs.length _ s (Nat.le_refl _)]
/-! ### a setting with one switch turned -/
def tn (wt k : Nat) (on : Bool) : Nat := (if k / wt % 2 = 1 then k - wt else k) + (if on then wt else 0)
theorem tn_parts (p k : Nat) (on : Bool) : tn (2 ^ p) k on = 2 ^ (p + 1) * (k / 2 ^ (p + 1)) + ((if on then 2 ^ p else 0) + k % 2 ^ p) := by
  have h1 := Nat.div_add_mod k (2 ^ p)
  have h2 := Nat.div_add_mod (k / 2 ^ p) 2
  have e : k / 2 ^ p / 2 = k / 2 ^ (p + 1) := by rw [Nat.div_div_eq_div_mul, Nat.pow_succ]
  have z : 2 ^ p * (k / 2 ^ p) = 2 ^ (p + 1) * (k / 2 ^ (p + 1)) + 2 ^ p * (k / 2 ^ p % 2) := by
    rw [← e, Nat.pow_succ, Nat.mul_assoc, ← Nat.mul_add, h2]
  unfold tn
  have m := Nat.mod_two_eq_zero_or_one (k / 2 ^ p)
  rcases m with m | m
  · rw [m] at z
    rw [if_neg (by omega)]
    split <;> omega
  · rw [m] at z
    rw [if_pos m]
    split <;> omega
theorem tn_same (p k : Nat) (on : Bool) : tn (2 ^ p) k on / 2 ^ p % 2 = if on then 1 else 0 := by
  rw [tn_parts]
  have q := Nat.two_pow_pos p
  have l := Nat.mod_lt k q
  rw [div_mod_add (Nat.lt_succ_self p)]
  cases on with
  | true =>
    simp only [if_true]
    rw [Nat.add_div_left _ q, Nat.div_eq_of_lt l]
  | false =>
    simp only [Bool.false_eq_true, if_false, Nat.zero_add]
    rw [Nat.div_eq_of_lt l]
theorem tn_other (p k q : Nat) (on : Bool) (h : q ≠ p) : tn (2 ^ p) k on / 2 ^ q % 2 = k / 2 ^ q % 2 := by
  rw [tn_parts]
  have pp := Nat.two_pow_pos p
  have l := Nat.mod_lt k pp
  by_cases hq : q < p
  · rw [div_mod_add (by omega)]
    have e1 : (if on = true then 2 ^ p else 0) = 2 ^ p * (if on = true then 1 else 0) := by split <;> simp
    rw [e1, div_mod_add hq]
    conv => rhs; rw [← Nat.div_add_mod k (2 ^ p)]
    rw [div_mod_add hq]
  · have e : 2 ^ q = 2 ^ (p + 1) * 2 ^ (q - (p + 1)) := by
      rw [← Nat.pow_add]
      congr 1
      omega
    have lt : (if on = true then 2 ^ p else 0) + k % 2 ^ p < 2 ^ (p + 1) := by
      rw [Nat.pow_succ]
      split <;> omega
    rw [e, ← Nat.div_div_eq_div_mul, ← Nat.div_div_eq_div_mul]
    congr 2
    rw [Nat.add_comm, Nat.add_mul_div_left _ _ (Nat.two_pow_pos _), Nat.div_eq_of_lt lt, Nat.zero_add]
theorem tn_lt {p k n : Nat} (on : Bool) (hp : p < n) (hk : k < 2 ^ n) : tn (2 ^ p) k on < 2 ^ n := by
  rw [tn_parts]
  have pp := Nat.two_pow_pos p
  have l := Nat.mod_lt k pp
  have e : 2 ^ n = 2 ^ (p + 1) * 2 ^ (n - (p + 1)) := by
    rw [← Nat.pow_add]
    congr 1
    omega
  have h1 : k / 2 ^ (p + 1) < 2 ^ (n - (p + 1)) := by
    rw [Nat.div_lt_iff_lt_mul (Nat.two_pow_pos _), Nat.mul_comm, ← e]
    exact hk
  have h2 : 2 ^ (p + 1) * (k / 2 ^ (p + 1)) + 2 ^ (p + 1) ≤ 2 ^ (p + 1) * 2 ^ (n - (p + 1)) := by
    rw [← Nat.mul_succ]
    exact Nat.mul_le_mul_left _ h1
  rw [e]
  have lt : (if on = true then 2 ^ p else 0) + k % 2 ^ p < 2 ^ (p + 1) := by
    rw [Nat.pow_succ]
    split <;> omega
  omega
theorem asg_tn {ns : List Str} (nd : ns.Nodup) {j : Nat} {z : Str} (hj : ns[j]? = some z) (k : Nat) (on : Bool) : ∀ s ∈ ns, asg ns (tn (2 ^ (ns.length - 1 - j)) k on) s = fset (asg ns k) z on s := by
  intro s hs
  obtain ⟨i, hi⟩ := List.getElem?_of_mem hs
  have li : i < ns.length := (List.getElem?_eq_some_iff.mp hi).1
  have lj : j < ns.length := (List.getElem?_eq_some_iff.mp hj).1
  rw [asg_at nd hi]
  unfold fset
  by_cases e : s = z
  · subst e
    have ij : i = j := nodup_ix nd hi hj
    subst ij
    rw [if_pos rfl, tn_same]
    cases on <;> rfl
  · have ij : i ≠ j := fun h => e (by rw [h, hj] at hi; exact (Option.some.inj hi).symm)
    rw [if_neg e, asg_at nd hi, tn_other _ _ _ _ (by omega)]
theorem ev_tn {ns : List Str} (nd : ns.Nodup) {j : Nat} {z : Str} (hj : ns[j]? = some z) {c : C} (h : OC ns c) (k : Nat) (on : Bool) : c.ev (asg ns (tn (2 ^ (ns.length - 1 - j)) k on)) = c.ev (fset (asg ns k) z on) :=
  C.ev_congr c fun s hs => asg_tn nd hj k on s (h.vars s hs)
/-- the switches of a condition are those that matter -/
theorem fset_comm {f : Str → Bool} {s t : Str} {a b : Bool} (h : s ≠ t) : fset (fset f s a) t b = fset (fset f t b) s a := by
  funext u
  unfold fset
  by_cases e1 : u = t
  · by_cases e2 : u = s
    · exact absurd (e2.symm.trans e1) h
    · simp [e1]
      intro z
      exact absurd z.symm h
  · simp [e1]
theorem OC.ess {s : Str} : ∀ {ns : List Str} {c : C}, ns.Nodup → OC ns c → s ∈ c.vars → ∃ f, c.ev (fset f s true) ≠ c.ev (fset f s false)
  | [], c, _, h, hs => by
    obtain ⟨v, rfl⟩ := h.bool_of
    cases hs
  | x :: xs, c, nd, h, hs => by
    obtain ⟨nx, nd'⟩ := List.nodup_cons.mp nd
    cases h with
    | leaf v => cases hs
    | skip h => exact OC.ess nd' h hs
    | @node _ _ a b ha hb ne =>
      rcases List.mem_cons.mp hs with e | hs
      · subst e
        -- the sides are unlike
        have hne : ∃ f, a.ev f ≠ b.ev f := Classical.byContradiction fun z => ne (OC.uniq nd' ha hb fun f => Classical.byContradiction fun k => z ⟨f, k⟩)
        obtain ⟨f, hf⟩ := hne
        refine ⟨f, ?_⟩
        show (if fset f s true s then a.ev (fset f s true) else b.ev (fset f s true)) ≠ (if fset f s false s then a.ev (fset f s false) else b.ev (fset f s false))
        have q1 := ha.ev_fset (f := f) (o := true) nx
        have q2 := hb.ev_fset (f := f) (o := false) nx
        simp only [fset, if_true, Bool.false_eq_true, if_false]
        intro z
        exact hf (by rw [← q1, ← q2]; exact z)
      · have hsx : ∀ {d : C}, OC xs d → s ∈ d.vars → s ≠ x := fun hd m e => nx (by rw [← e]; exact hd.vars s m)
        rcases List.mem_append.mp hs with hs | hs
        · obtain ⟨f, hf⟩ := OC.ess nd' ha hs
          have sx := hsx ha hs
          refine ⟨fset f x true, fun z => hf ?_⟩
          rw [fset_comm sx.symm, fset_comm sx.symm] at z
          have z' : (if fset (fset f s true) x true x then a.ev (fset (fset f s true) x true) else b.ev (fset (fset f s true) x true)) = (if fset (fset f s false) x true x then a.ev (fset (fset f s false) x true) else b.ev (fset (fset f s false) x true)) := z
          have q1 := ha.ev_fset (f := fset f s true) (o := true) nx
          have q2 := ha.ev_fset (f := fset f s false) (o := true) nx
          rw [q1, q2] at z'
          simpa [fset] using z'
        · obtain ⟨f, hf⟩ := OC.ess nd' hb hs
          have sx := hsx hb hs
          refine ⟨fset f x false, fun z => hf ?_⟩
          rw [fset_comm sx.symm, fset_comm sx.symm] at z
          have z' : (if fset (fset f s true) x false x then a.ev (fset (fset f s true) x false) else b.ev (fset (fset f s true) x false)) = (if fset (fset f s false) x false x then a.ev (fset (fset f s false) x false) else b.ev (fset (fset f s false) x false)) := z
          have q1 := hb.ev_fset (f := fset f s true) (o := false) nx
          have q2 := hb.ev_fset (f := fset f s false) (o := false) nx
          rw [q1, q2] at z'
          simpa [fset] using z'
theorem OC.ess_iff {s : Str} {ns : List Str} {c : C} (nd : ns.Nodup) (h : OC ns c) : s ∈ c.vars ↔ ∃ f, c.ev (fset f s true) ≠ c.ev (fset f s false) := by
  refine ⟨OC.ess nd h, fun ⟨f, hf⟩ => ?_⟩
  refine Classical.byContradiction fun m => hf ?_
  rw [C.ev_fset m, C.ev_fset m]
end EA
namespace EA
open PySem PySem.Spec PyProof.Rows L2
theorem tNoPart_i {σ : L2.St} {H : Hp} {Q : Option Int → Hp → Prop} (h : Q none H) : tNoPart σ H Q := h
/-- the same where what follows is not yet named -/
theorem comp_goD {J : It} {n : Nat} {x : Nat → V} {OK : Hp → Prop} {M : List Addr} {G H : Hp} {σ : L2.St} {vs : List Nat} {g : TG} {tt : TT} {te : TE} {Qd : Addr → Hp → Prop} (P : Nat → List PyData → Hp → Hp → Prop)
    (W : WalkJ J n x OK) (s : Same G H) (hn : n < sizeLine) (hM : ∀ m ∈ M, H m ≠ none) (ok : ∀ G' H', Ex M G H G' H' → OK H')
    (P0 : P 0 [] G H) (Pw : ∀ i acc G' H' D o, P i acc G' H' → H D = none → G' D = none → P i acc G' (upd H' D o)) (Pg : ∀ i acc G' H' D o, P i acc G' H' → H D = none → G' D = none → P i acc (upd G' D o) H')
    (stp : ∀ i acc G1 H1, i < n → Ex M G H G1 H1 → P i acc G1 H1 → ∀ (C : VK) (C' : Hp → Prop), (∀ y G2 H2 d, Ex M G1 H1 G2 H2 → Dat G2 y d → P (i + 1) (acc ++ [d]) G2 H2 → C y H2) → (∀ G2 H2, Ex M G1 H1 G2 H2 → P (i + 1) acc G2 H2 → C' H2) →
      g (x i) (wipe σ vs) H1 fun σ2 H2 => wipe σ2 vs = wipe σ vs ∧ tt σ2 H2 fun b H3 => if b = true then te σ2 H3 C else C' H3)
    (fin : ∀ G' H' D acc, Ex M G H G' H' → Dat G' (.ref D) (.list acc) → acc.length ≤ n → P n acc G' H' → Qd D H') :
    ∀ D, H D = none → ∃ W : Nat → Nat → Hp → Prop, (∃ m, W 0 m (upd H D (.lst []))) ∧ ∀ i m H, W i m H →
      (J.stop i H ∧ Qd D H) ∨ (J.go i H ∧ ∃ Nx : Hp → Prop, (∀ H', Nx H' → ∃ m', m' < m ∧ W (i + 1) m' H') ∧ ∀ x H', J.yld i H x H' → g x (wipe σ vs) H' fun σ2 H2 => wipe σ2 vs = wipe σ vs ∧ tt σ2 H2 fun b H3 =>
        if b = true then te σ2 H3 fun y H4 => ∃ acc, H4 D = some (.lst acc) ∧ acc.length < sizeLine ∧ Nx (upd H4 D (.lst (acc ++ [y]))) else Nx H3) := by
  intro D hD
  obtain ⟨W, h0, hW⟩ := comp_go (Q := fun v H => ∀ D, v = .ref D → Qd D H) P W s hn hM ok P0 Pw Pg stp (fun G' H' r acc E d l p D e => by subst e; exact fin G' H' D acc E d l p) D hD
  exact ⟨W, h0, fun i m H w => (hW i m H w).imp (fun ⟨a, b⟩ => ⟨a, b D rfl⟩) id⟩
section
variable {K : PySem.W.Frag} {H : Hp} {c : String} {Q : VK}
theorem isi_non (r : Bool) (e : kitB "NoneType" c = some r) (q : Q (.bl r) H) : rIsi K [.non, .ty c] H Q := isi_of r (G := H) .non (Same.refl H) e q
theorem isi_bl {b : Bool} (r : Bool) (e : kitB "bool" c = some r) (q : Q (.bl r) H) : rIsi K [.bl b, .ty c] H Q := isi_of r (G := H) (.bl b) (Same.refl H) e q
theorem isi_int {i : Int} (r : Bool) (e : kitB "int" c = some r) (q : Q (.bl r) H) : rIsi K [.int i, .ty c] H Q := isi_of r (G := H) (.int i) (Same.refl H) e q
theorem isi_str {s : Str} (r : Bool) (e : kitB "str" c = some r) (q : Q (.bl r) H) : rIsi K [.str s, .ty c] H Q := isi_of r (G := H) (.str s) (Same.refl H) e q
theorem isi_tup {a : Addr} {xs : List V} (h : H a = some (.tup xs)) (r : Bool) (e : kitB "tuple" c = some r) (q : Q (.bl r) H) : rIsi K [.ref a, .ty c] H Q :=
  ⟨.ref a, .ty c, .type "tuple", .type c, r, rfl, .ty c, .base (.tup h), kit_ty e, q⟩
theorem isi_lst {a : Addr} {xs : List V} (h : H a = some (.lst xs)) (r : Bool) (e : kitB "list" c = some r) (q : Q (.bl r) H) : rIsi K [.ref a, .ty c] H Q :=
  ⟨.ref a, .ty c, .type "list", .type c, r, rfl, .ty c, .base (.lst h), kit_ty e, q⟩
end
end EA
namespace EA
open PySem PySem.Spec PyProof.Rows L2
theorem for_go {J : It} {n : Nat} {x : Nat → V} {OK : Hp → Prop} (Wk : WalkJ J n x OK) {g : TG} {tb : TS} {D : Ends} {σ : L2.St} {H : Hp} (Pv : Nat → L2.St → Hp → Prop) (h0 : Pv 0 σ H) (hl : ∀ i σ H, i ≤ n → Pv i σ H → OK H)
    (hs : ∀ i σ H, i < n → Pv i σ H → g (x i) σ H fun σ2 H2 => tb { D with nx := Pv (i + 1), ct := Pv (i + 1), bk := D.nx } σ2 H2) (hd : ∀ σ H, Pv n σ H → D.nx σ H) :
    ∃ W : Nat → Nat → L2.St → Hp → Prop, (∃ m, W 0 m σ H) ∧ ∀ i m σ H, W i m σ H →
      (J.stop i H ∧ D.nx σ H) ∨ (J.go i H ∧ ∃ N : L2.St → Hp → Prop, (∀ σ' H', N σ' H' → ∃ m', m' < m ∧ W (i + 1) m' σ' H') ∧ ∀ x H', J.yld i H x H' → g x σ H' fun σ2 H2 => tb { D with nx := N, ct := N, bk := D.nx } σ2 H2) := by
  refine ⟨fun i m σ H => m = n - i ∧ i ≤ n ∧ Pv i σ H, ⟨n, by simp, Nat.zero_le _, h0⟩, ?_⟩
  rintro i m σ H ⟨rfl, hi, p⟩
  have q := hl i σ H hi p
  by_cases hlt : i < n
  · refine .inr ⟨Wk.go i H q hlt, Pv (i + 1), fun σ' H' p' => ⟨n - (i + 1), by omega, rfl, hlt, p'⟩, fun v H' y => ?_⟩
    obtain ⟨e1, e2⟩ := Wk.yld i H v H' q hlt y
    subst e1 e2
    exact hs i σ _ hlt p
  · have e : i = n := by omega
    subst e
    exact .inl ⟨Wk.stop _ _ q (Nat.le_refl _), hd σ H p⟩
/-! ### all settings -/
def SL : List Str → List (List Str)
  | [] => [[]]
  | x :: xs => SL xs ++ (SL xs).map (x :: ·)
theorem SL_len : ∀ ns : List Str, (SL ns).length = 2 ^ ns.length
  | [] => rfl
  | x :: xs => by
    show (SL xs ++ (SL xs).map (x :: ·)).length = _
    rw [List.length_append, List.length_map, SL_len xs, List.length_cons, Nat.pow_succ]
    omega
theorem SL_mem : ∀ {ns : List Str} {k : Nat} {l : List Str}, ns.Nodup → (SL ns)[k]? = some l → ∀ s, s ∈ l ↔ s ∈ ns ∧ asg ns k s = true
  | [], k, l, _, h, s => by
    match k, h with
    | 0, h =>
      have e : [] = l := Option.some.inj h
      subst e
      simp
  | x :: xs, k, l, nd, h, s => by
    obtain ⟨nx, nd'⟩ := List.nodup_cons.mp nd
    have p := Nat.two_pow_pos xs.length
    have ax : asg (x :: xs) k s = if s = x then decide (k / 2 ^ xs.length % 2 = 1) else asg xs k s := rfl
    have h' : (SL xs ++ (SL xs).map (x :: ·))[k]? = some l := h
    by_cases hk : k < 2 ^ xs.length
    · rw [List.getElem?_append_left (by rw [SL_len]; exact hk)] at h'
      rw [SL_mem nd' h' s, ax, Nat.div_eq_of_lt hk]
      by_cases e : s = x
      · subst e
        simp [nx]
      · simp [e]
    · rw [List.getElem?_append_right (by rw [SL_len]; omega), SL_len, List.getElem?_map] at h'
      obtain ⟨l', h1, rfl⟩ := Option.map_eq_some_iff.mp h'
      have lt : k - 2 ^ xs.length < 2 ^ xs.length := by
        have := (List.getElem?_eq_some_iff.mp h1).1
        rw [SL_len] at this
        exact this
      have e1 : k = 2 ^ xs.length * 1 + (k - 2 ^ xs.length) := by omega
      have e2 : k / 2 ^ xs.length = 1 := by rw [e1, Nat.add_comm, Nat.add_mul_div_left _ _ p, Nat.div_eq_of_lt lt]
      have e3 : asg xs k s = asg xs (k - 2 ^ xs.length) s := by
        conv => lhs; rw [e1]
        rw [asg_add 1 xs xs.length _ s (Nat.le_refl _)]
      rw [List.mem_cons, SL_mem nd' h1 s, ax, e2, e3]
      by_cases e : s = x
      · subst e
        simp
      · simp [e]
theorem SL_few : ∀ {ns : List Str} {l : List Str}, l ∈ SL ns → l.length ≤ ns.length ∧ ∀ s ∈ l, s ∈ ns
  | [], l, h => by
    have e : l = [] := by simpa [SL] using h
    subst e
    exact ⟨Nat.le_refl _, fun s hs => nomatch hs⟩
  | x :: xs, l, h => by
    have h' : l ∈ SL xs ++ (SL xs).map (x :: ·) := h
    rcases List.mem_append.mp h' with h' | h'
    · obtain ⟨a, b⟩ := SL_few h'
      exact ⟨Nat.le_succ_of_le a, fun s hs => List.mem_cons_of_mem _ (b s hs)⟩
    · obtain ⟨l', h1, rfl⟩ := List.mem_map.mp h'
      obtain ⟨a, b⟩ := SL_few h1
      refine ⟨Nat.succ_le_succ a, fun s hs => ?_⟩
      rcases List.mem_cons.mp hs with e | hs
      · rw [e]; exact List.mem_cons_self
      · exact List.mem_cons_of_mem _ (b s hs)
abbrev strsD (l : List Str) : PyData := .list (l.map PyData.str)
theorem ev_SL {ns : List Str} {k : Nat} {l : List Str} {c : C} (nd : ns.Nodup) (h : (SL ns)[k]? = some l) (hc : OC ns c) {es : List Str} (he : ∀ s, s ∈ es ↔ s ∈ l ∨ s = "Q9") (nq : (Str.ofString "Q9") ∉ ns) : (c.ev fun s => decide (s ∈ es)) = c.ev (asg ns k) :=
  C.ev_congr c fun s hs => by
    have m := hc.vars s hs
    have ne : s ≠ "Q9" := fun e => nq (by rw [← show s = Str.ofString "Q9" from e]; exact m)
    rw [Bool.eq_iff_iff, decide_eq_true_iff, he, SL_mem nd h]
    simp [m, ne]
theorem ev_SL' {ns : List Str} {k : Nat} {l : List Str} {c : C} (nd : ns.Nodup) (h : (SL ns)[k]? = some l) (hc : OC ns c) : (c.ev fun s => decide (s ∈ l)) = c.ev (asg ns k) :=
  C.ev_congr c fun s hs => by
    have m := hc.vars s hs
    rw [Bool.eq_iff_iff, decide_eq_true_iff, SL_mem nd h]
    simp [m]
theorem mat_iff {ns : List Str} {c : C} {z : Str} (nd : ns.Nodup) (h : OC ns c) : (∀ k, k < 2 ^ ns.length → c.ev (fset (asg ns k) z true) = c.ev (fset (asg ns k) z false)) ↔ z ∉ c.vars := by
  constructor
  · intro e m
    obtain ⟨f, hf⟩ := OC.ess nd h m
    refine hf ?_
    have q : ∀ o, c.ev (fset f z o) = c.ev (fset (asg ns (idx ns f)) z o) := fun o => C.ev_congr c fun s hs => by
      unfold fset
      split
      · rfl
      · exact (asg_idx nd s (h.vars s hs)).symm
    rw [q, q]
    exact e _ (idx_lt ns f)
  · intro m k _
    rw [C.ev_fset m, C.ev_fset m]
theorem filter_take {ns : List Str} {p : Str → Bool} {i : Nat} {z : Str} (h : ns[i]? = some z) : (ns.take (i + 1)).filter p = (ns.take i).filter p ++ (if p z then [z] else []) := by
  rw [List.take_add_one, h, List.filter_append]
  congr 1
  show List.filter p [z] = _
  cases hp : p z <;> simp [hp]
end EA
namespace EA
open PySem PySem.Spec PyProof.Rows L2
theorem perm_map_inv {α β : Type} {f : α → β} : ∀ {l k : List β}, l.Perm k → ∀ {m : List α}, k = m.map f → ∃ m' : List α, l = m'.map f ∧ m'.Perm m := by
  intro l k h
  induction h with
  | nil =>
    intro m e
    have z : m = [] := List.map_eq_nil_iff.mp e.symm
    subst z
    exact ⟨[], rfl, List.Perm.refl _⟩
  | cons x _ ih =>
    intro m e
    cases m with
    | nil => cases e
    | cons y r =>
      rw [List.map_cons, List.cons.injEq] at e
      obtain ⟨m', e1, p⟩ := ih e.2
      exact ⟨y :: m', by rw [List.map_cons, ← e1, e.1], p.cons y⟩
  | swap x y l =>
    intro m e
    match m, e with
    | a :: b :: r, e =>
      rw [List.map_cons, List.map_cons, List.cons.injEq, List.cons.injEq] at e
      exact ⟨b :: a :: r, by rw [List.map_cons, List.map_cons, e.1, e.2.1, e.2.2], List.Perm.swap a b r⟩
  | trans _ _ ih1 ih2 =>
    intro m e
    obtain ⟨m1, e1, p1⟩ := ih2 e
    obtain ⟨m2, e2, p2⟩ := ih1 e1
    exact ⟨m2, e2, p2.trans p1⟩
/-! ### drawn names -/
abbrev cl (s : Str) : List Nat := s.cps.toList
def Tag (k : Nat) (s : Str) : Prop := cl s = [109, 49 + k] ∨ cl s = [101, 49 + k] ∨ ∃ (c : Nat) (mid : List Nat), cl s = c :: (mid ++ [48 + k]) ∧ 65 ≤ c ∧ c ≤ 90 ∧ (∀ x ∈ mid, 97 ≤ x ∧ x ≤ 122) ∧ mid.length ≤ 7
theorem Tag.inj {i j : Nat} {s : Str} (h : Tag i s) (k : Tag j s) : i = j := by
  have last : ∀ {c : Nat} {mid mid' : List Nat} {c' x y : Nat}, c :: (mid ++ [x]) = c' :: (mid' ++ [y]) → x = y := fun {c mid mid' c' x y} e => by
    have e2 : mid ++ [x] = mid' ++ [y] := (List.cons.inj e).2
    have := congrArg List.getLast? e2
    simpa using this
  rcases h with h | h | ⟨c, mid, h, c1, c2, _, _⟩ <;> rcases k with k | k | ⟨c', mid', k, d1, d2, _, _⟩ <;> rw [h] at k
  · simp at k; omega
  · simp at k
  · have := (List.cons.inj k).1; omega
  · simp at k
  · simp at k; omega
  · have := (List.cons.inj k).1; omega
  · have := (List.cons.inj k).1; omega
  · have := (List.cons.inj k).1; omega
  · have := last k; omega
theorem Tag.ok {k : Nat} {s : Str} (h : Tag k s) (hk : k ≤ 8) : PyData.strOk s = true ∧ s.length ≤ 100 := by
  have len : s.length = (cl s).length := by
    show s.cps.size = s.cps.toList.length
    rw [Array.length_toList]
  have al : PyData.strOk s = (cl s).all fun x => decide (x < 0x110000) := by
    show s.cps.all (· < 0x110000) = _
    rw [Array.all_toList]
  rw [al, len, List.all_eq_true]
  rcases h with h | h | ⟨c, mid, h, c1, c2, m1, m2⟩ <;> rw [h]
  · refine ⟨fun x hx => ?_, by simp⟩
    have : x = 109 ∨ x = 49 + k := by simpa using hx
    exact decide_eq_true (by omega)
  · refine ⟨fun x hx => ?_, by simp⟩
    have : x = 101 ∨ x = 49 + k := by simpa using hx
    exact decide_eq_true (by omega)
  · refine ⟨fun x hx => ?_, by simp; omega⟩
    rcases List.mem_cons.mp hx with e | hx
    · exact decide_eq_true (by omega)
    · rcases List.mem_append.mp hx with hx | hx
      · have := m1 x hx
        exact decide_eq_true (by omega)
      · have : x = 48 + k := by simpa using hx
        exact decide_eq_true (by omega)
theorem cl_Q9 : cl (Str.ofString "Q9") = [81, 57] := by decide +kernel
theorem Tag.q9 {k : Nat} (hk : k ≤ 7) : ¬ Tag k (Str.ofString "Q9") := by
  intro h
  rcases h with h | h | ⟨c, mid, h, c1, c2, _, _⟩ <;> rw [cl_Q9] at h
  · simp at h
  · simp at h
  · have e : [57] = mid ++ [48 + k] := (List.cons.inj h).2
    have := congrArg List.getLast? e
    have z : 57 = 48 + k := by simpa using this
    omega
theorem cl_append (a b : Str) : cl (a ++ b) = cl a ++ cl b := by
  show (a.cps ++ b.cps).toList = _
  rw [Array.toList_append]
theorem digit : ∀ k : Nat, k < 10 → cl (Str.ofString (toString (k : Int))) = [48 + k] := by
  intro k h
  match k, h with
  | 0, _ => decide +kernel
  | 1, _ => decide +kernel
  | 2, _ => decide +kernel
  | 3, _ => decide +kernel
  | 4, _ => decide +kernel
  | 5, _ => decide +kernel
  | 6, _ => decide +kernel
  | 7, _ => decide +kernel
  | 8, _ => decide +kernel
  | 9, _ => decide +kernel
theorem low_at : ∀ r : Nat, r < 26 → (cl (Str.ofString "abcdefghijklmnopqrstuvwxyz"))[r]? = some (97 + r) := by decide +kernel
theorem up_at : ∀ r : Nat, r < 26 → (cl (Str.ofString "ABCDEFGHIJKLMNOPQRSTUVWXYZ"))[r]? = some (65 + r) := by decide +kernel
theorem joinL_nil : ∀ ps : List (List Nat), TL.joinL [] ps = ps.flatten
  | [] => rfl
  | [p] => by simp [TL.joinL]
  | p :: q :: r => by
    show p ++ ([] ++ TL.joinL [] (q :: r)) = _
    rw [joinL_nil (q :: r)]
    rfl
theorem cl_join {e : Str} (h : cl e = []) (ps : List Str) : cl (Txt.join e ps) = (ps.map cl).flatten := by
  rw [TL.join_eq]
  have z := TL.tl_join e ps
  rw [show TL.tl e = [] from h, joinL_nil] at z
  exact z
theorem flat_one : ∀ (ps : List Str) (ms : List Nat), ps.map cl = ms.map (fun x => [x]) → (ps.map cl).flatten = ms := by
  intro ps ms h
  rw [h]
  induction ms generalizing ps with
  | nil => rfl
  | cons x r ih =>
    cases ps with
    | nil => cases h
    | cons p q =>
      rw [List.map_cons, List.map_cons, List.cons.injEq] at h
      rw [List.map_cons, List.flatten_cons, ih q h.2]
      rfl
theorem sum_one : ∀ ms : List Nat, ((ms.map fun x => (⟨#[x]⟩ : Str)).map (·.length)).sum = ms.length
  | [] => rfl
  | x :: r => by
    rw [List.map_cons, List.map_cons, List.sum_cons, sum_one r, List.length_cons]
    have : (⟨#[x]⟩ : Str).length = 1 := rfl
    omega
theorem tag_nodup : ∀ {ss : List Str} (o : Nat), (∀ j s, ss[j]? = some s → Tag (j + o) s) → ss.Nodup
  | [], _, _ => .nil
  | x :: r, o, h => by
    refine List.nodup_cons.mpr ⟨fun m => ?_, tag_nodup (o + 1) fun j s e => ?_⟩
    · obtain ⟨j, hj⟩ := List.getElem?_of_mem m
      have a := h 0 x rfl
      have b := h (j + 1) x (by simpa using hj)
      have := a.inj b
      omega
    · have b := h (j + 1) s (by simpa using e)
      rw [show j + (o + 1) = j + 1 + o by omega]
      exact b
end EA
namespace EA
open PySem PySem.Spec PyProof.Rows L2
abbrev rowD (row : List Bool) : PyData := .list (row.map PyData.bool)
/-- a row of truths by a range -/
theorem comp_bools {n : Nat} (f : Nat → Bool) {G H : Hp} {σ : L2.St} {vs : List Nat} {g : TG} {tt : TT} {te : TE} {Qd : Addr → Hp → Prop} (s : Same G H) (hn : n ≤ 100000)
    (stp : ∀ k G1 H1, k < n → Ex [] G H G1 H1 → ∀ (C : VK) (C' : Hp → Prop), (∀ G2 H2, Ex [] G1 H1 G2 H2 → C (.bl (f k)) H2) →
      g (.int (0 + (k : Nat))) (wipe σ vs) H1 fun σ2 H2 => wipe σ2 vs = wipe σ vs ∧ tt σ2 H2 fun b H3 => if b = true then te σ2 H3 C else C' H3)
    (fin : ∀ G' H' D, Ex [] G H G' H' → Dat G' (.ref D) (rowD ((List.range n).map f)) → Qd D H') :
    ∀ D, H D = none → ∃ W : Nat → Nat → Hp → Prop, (∃ m, W 0 m (upd H D (.lst []))) ∧ ∀ i m H, W i m H →
      ((Itr 0 n).stop i H ∧ Qd D H) ∨ ((Itr 0 n).go i H ∧ ∃ Nx : Hp → Prop, (∀ H', Nx H' → ∃ m', m' < m ∧ W (i + 1) m' H') ∧ ∀ x H', (Itr 0 n).yld i H x H' → g x (wipe σ vs) H' fun σ2 H2 => wipe σ2 vs = wipe σ vs ∧ tt σ2 H2 fun b H3 =>
        if b = true then te σ2 H3 fun y H4 => ∃ acc, H4 D = some (.lst acc) ∧ acc.length < sizeLine ∧ Nx (upd H4 D (.lst (acc ++ [y]))) else Nx H3) := by
  refine comp_goD (M := []) (fun i acc G' H' => acc = ((List.range i).map f).map PyData.bool) walk_range s (line_lt hn) (fun m hm => nomatch hm) (fun _ _ _ => trivial) rfl (fun i acc G' H' D o hp n1 n2 => hp) (fun i acc G' H' D o hp n1 n2 => hp)
    (fun k acc G1 H1 hk E1 hp C C' hC hC' => ?_) (fun G' H' D acc E1 dr hacc hp => ?_)
  · refine stp k G1 H1 hk E1 C C' fun G2 H2 E2 => hC _ G2 H2 (.bool (f k)) E2 (.bl _) ?_
    rw [hp, List.range_succ, List.map_append, List.map_append]
    rfl
  · subst hp
    exact fin G' H' D E1 dr
theorem lcYesC {σ : L2.St} {H : Hp} {te : TE} {C : VK} {C' : Hp → Prop} (h : te σ H C) : tYes σ H fun b H3 => if b = true then te σ H3 C else C' H3 := lcYes h
theorem ixLast {K : PySem.W.Frag} {H : Hp} {p : Addr} {xs : List V} {v : V} {Q : VK} (h : H p = some (.lst (xs ++ [v]))) (q : Q v H) : rIx K (.ref p) (.int (-1)) H Q :=
  .inl ⟨p, xs ++ [v], -1, v, rfl, rfl, SqL.of h, atI_last _ _, q⟩
theorem row_at {ns : List Str} {c : C} {row : List Bool} (h : Rep ns c row) {k : Nat} (hk : k < 2 ^ ns.length) : (row.map V.bl)[(0 + (k : Int)).toNat]? = some (.bl (c.ev (asg ns k))) := by
  rw [show (0 + (k : Int)).toNat = k by omega, List.getElem?_map, h.at_ k hk]
  rfl
theorem tRet_i {te : TE} {D : Ends} {σ : L2.St} {H : Hp} {Q : VK} (e : D.rt = Q) (h : te σ H Q) : tRet te D σ H := by
  subst e
  exact h
end EA
namespace EA
open PySem PySem.Spec PyProof.Rows L2
def topS (i : Nat) : Stmt := PySem.Challenge.pw_eacharm_k00_conditions_after_any_run.main.body.getD i (.Pass ⟨0, 0, 0, 0⟩)
abbrev s_switch_condition : Stmt := topS 1
theorem sc_switch_condition : FnScope ["switch"] ["switch"] (defScope s_switch_condition) := ⟨rfl, rfl, rfl, by decide +kernel, rfl, by decide +kernel, by decide +kernel⟩
abbrev s_formed : Stmt := topS 2
theorem sc_formed : FnScope ["switch", "on", "off"] ["switch", "on", "off"] (defScope s_formed) := ⟨rfl, rfl, rfl, by decide +kernel, rfl, by decide +kernel, by decide +kernel⟩
abbrev s_side_of : Stmt := topS 3
theorem sc_side_of : FnScope ["condition", "switch", "on"] ["condition", "switch", "on"] (defScope s_side_of) := ⟨rfl, rfl, rfl, by decide +kernel, rfl, by decide +kernel, by decide +kernel⟩
abbrev s_no : Stmt := topS 4
theorem sc_no : FnScope ["condition"] ["condition"] (defScope s_no) := ⟨rfl, rfl, rfl, by decide +kernel, rfl, by decide +kernel, by decide +kernel⟩
abbrev s_both : Stmt := topS 5
theorem sc_both : FnScope ["condition", "other", "switch", "on", "off"] ["condition", "other"] (defScope s_both) := ⟨rfl, rfl, rfl, by decide +kernel, rfl, by decide +kernel, by decide +kernel⟩
abbrev s_either : Stmt := topS 6
theorem sc_either : FnScope ["condition", "other"] ["condition", "other"] (defScope s_either) := ⟨rfl, rfl, rfl, by decide +kernel, rfl, by decide +kernel, by decide +kernel⟩
abbrev s_but_not : Stmt := topS 7
theorem sc_but_not : FnScope ["condition", "other"] ["condition", "other"] (defScope s_but_not) := ⟨rfl, rfl, rfl, by decide +kernel, rfl, by decide +kernel, by decide +kernel⟩
abbrev s_switched : Stmt := topS 8
theorem sc_switched : FnScope ["switch", "on", "off", "chosen"] ["switch", "on", "off"] (defScope s_switched) := ⟨rfl, rfl, rfl, by decide +kernel, rfl, by decide +kernel, by decide +kernel⟩
abbrev s_fixed : Stmt := topS 9
theorem sc_fixed : FnScope ["condition", "switch", "on"] ["condition", "switch", "on"] (defScope s_fixed) := ⟨rfl, rfl, rfl, by decide +kernel, rfl, by decide +kernel, by decide +kernel⟩
abbrev s_holds : Stmt := topS 10
theorem sc_holds : FnScope ["condition", "setting"] ["condition", "setting"] (defScope s_holds) := ⟨rfl, rfl, rfl, by decide +kernel, rfl, by decide +kernel, by decide +kernel⟩
abbrev s_implies : Stmt := topS 11
theorem sc_implies : FnScope ["condition", "other"] ["condition", "other"] (defScope s_implies) := ⟨rfl, rfl, rfl, by decide +kernel, rfl, by decide +kernel, by decide +kernel⟩
abbrev s_switches_of : Stmt := topS 12
theorem sc_switches_of : FnScope ["condition", "found", "pile", "part"] ["condition"] (defScope s_switches_of) := ⟨rfl, rfl, rfl, by decide +kernel, rfl, by decide +kernel, by decide +kernel⟩
abbrev s_stirred : Stmt := topS 14
theorem sc_stirred : FnScope ["_law_number", "_law_turn", "_law_once", "_law_twice"] ["_law_number", "_law_turn"] (defScope s_stirred) := ⟨rfl, rfl, rfl, by decide +kernel, rfl, by decide +kernel, by decide +kernel⟩
abbrev s_take : Stmt := topS 15
theorem sc_take : FnScope ["_law_hand_here", "_law_many", "_law_cell", "_law_rest"] ["_law_hand_here", "_law_many"] (defScope s_take) := ⟨rfl, rfl, rfl, by decide +kernel, rfl, by decide +kernel, by decide +kernel⟩
abbrev s_turned : Stmt := topS 16
theorem sc_turned : FnScope ["_law_k", "_law_many", "_law_at", "_law_on", "_law_weight", "_law_turn", "_law_low"] ["_law_k", "_law_many", "_law_at", "_law_on"] (defScope s_turned) := ⟨rfl, rfl, rfl, by decide +kernel, rfl, by decide +kernel, by decide +kernel⟩
abbrev s_bits : Stmt := topS 17
theorem sc_bits : FnScope ["_law_hand_here", "_law_many", "_law_turn", "_law_one", "_law_k"] ["_law_hand_here", "_law_many"] (defScope s_bits) := ⟨rfl, rfl, rfl, by decide +kernel, rfl, by decide +kernel, by decide +kernel⟩
abbrev s_form : Stmt := topS 18
theorem sc_form : FnScope ["_law_names", "_law_bits_here", "_law_half", "_law_off", "_law_on"] ["_law_names", "_law_bits_here"] (defScope s_form) := ⟨rfl, rfl, rfl, by decide +kernel, rfl, by decide +kernel, by decide +kernel⟩
abbrev s_whole : Stmt := topS 19
theorem sc_whole : FnScope ["_law_thing"] ["_law_thing"] (defScope s_whole) := ⟨rfl, rfl, rfl, by decide +kernel, rfl, by decide +kernel, by decide +kernel⟩
abbrev s_alike : Stmt := topS 20
theorem sc_alike : FnScope ["_law_told", "_law_due", "_law_k"] ["_law_told", "_law_due"] (defScope s_alike) := ⟨rfl, rfl, rfl, by decide +kernel, rfl, by decide +kernel, by decide +kernel⟩
abbrev s_matter : Stmt := topS 21
theorem sc_matter : FnScope ["_law_names", "_law_row", "_law_many", "_law_told", "_law_at", "_law_unlike", "_law_k"] ["_law_names", "_law_row"] (defScope s_matter) := ⟨rfl, rfl, rfl, by decide +kernel, rfl, by decide +kernel, by decide +kernel⟩
abbrev s_shuffled : Stmt := topS 22
theorem sc_shuffled : FnScope ["_law_hand_here", "_law_things", "_law_left", "_law_k"] ["_law_hand_here", "_law_things"] (defScope s_shuffled) := ⟨rfl, rfl, rfl, by decide +kernel, rfl, by decide +kernel, by decide +kernel⟩
abbrev s_muddled : Stmt := topS 23
theorem sc_muddled : FnScope ["_law_hand_here", "_law_setting", "_law_told"] ["_law_hand_here", "_law_setting"] (defScope s_muddled) := ⟨rfl, rfl, rfl, by decide +kernel, rfl, by decide +kernel, by decide +kernel⟩
abbrev s_hand : Stmt := topS 24
theorem sc_hand : FnScope ["_law_script", "_law_total", "_law_cells", "_law_cell"] ["_law_script"] (defScope s_hand) := ⟨rfl, rfl, rfl, by decide +kernel, rfl, by decide +kernel, by decide +kernel⟩
abbrev s_switch_names : Stmt := topS 25
theorem sc_switch_names : FnScope ["_law_hand_here", "_law_many", "_law_told", "_law_k", "_law_turn", "_law_middle", "_law_j"] ["_law_hand_here", "_law_many"] (defScope s_switch_names) := ⟨rfl, rfl, rfl, by decide +kernel, rfl, by decide +kernel, by decide +kernel⟩
abbrev s_settings : Stmt := topS 26
theorem sc_settings : FnScope ["_law_names", "_law_told", "_law_switch", "_law_row"] ["_law_names"] (defScope s_settings) := ⟨rfl, rfl, rfl, by decide +kernel, rfl, by decide +kernel, by decide +kernel⟩
abbrev s_stepped : Stmt := topS 27
theorem sc_stepped : FnScope ["_law_hand_here", "_law_names", "_law_pool", "_law_rows", "_law_many", "_law_turn", "_law_i", "_law_j", "_law_at", "_law_on", "_law_one", "_law_two", "_law_k", "_law_row"] ["_law_hand_here", "_law_names", "_law_pool", "_law_rows"] (defScope s_stepped) := ⟨rfl, rfl, rfl, by decide +kernel, rfl, by decide +kernel, by decide +kernel⟩
abbrev s_asked_k00 : Stmt := topS 28
theorem sc_asked_k00 : FnScope ["_law_hand_here", "_law_names", "_law_settings_here", "_law_condition", "_law_row", "_law_k"] ["_law_hand_here", "_law_names", "_law_settings_here", "_law_condition", "_law_row"] (defScope s_asked_k00) := ⟨rfl, rfl, rfl, by decide +kernel, rfl, by decide +kernel, by decide +kernel⟩
abbrev s_law : Stmt := topS 29
theorem sc_law : FnScope ["_law_script", "_law_hand_here", "_law_names", "_law_settings_here", "_law_many", "_law_pool", "_law_rows", "_law_k", "_law_at", "_law_step", "_law_condition", "_law_row", "_law_other", "_law_due", "_law_strange"] ["_law_script"] (defScope s_law) := ⟨rfl, rfl, rfl, by decide +kernel, rfl, by decide +kernel, by decide +kernel⟩
structure Tp (K : PySem.W.Frag) (mg : Str → Option Value) where
  a_switch_condition : Addr
  d_switch_condition : FuncData
  F_switch_condition : Fun K "switch_condition" "switch_condition" s_switch_condition a_switch_condition d_switch_condition
  g_switch_condition : mg "switch_condition" = some (.ref a_switch_condition)
  b_switch_condition : Binds K d_switch_condition ["switch"] []
  a_formed : Addr
  d_formed : FuncData
  F_formed : Fun K "formed" "formed" s_formed a_formed d_formed
  g_formed : mg "formed" = some (.ref a_formed)
  b_formed : Binds K d_formed ["switch", "on", "off"] []
  a_side_of : Addr
  d_side_of : FuncData
  F_side_of : Fun K "side_of" "side_of" s_side_of a_side_of d_side_of
  g_side_of : mg "side_of" = some (.ref a_side_of)
  b_side_of : Binds K d_side_of ["condition", "switch", "on"] []
  a_no : Addr
  d_no : FuncData
  F_no : Fun K "no" "no" s_no a_no d_no
  g_no : mg "no" = some (.ref a_no)
  b_no : Binds K d_no ["condition"] []
  a_both : Addr
  d_both : FuncData
  F_both : Fun K "both" "both" s_both a_both d_both
  g_both : mg "both" = some (.ref a_both)
  b_both : Binds K d_both ["condition", "other"] []
  a_either : Addr
  d_either : FuncData
  F_either : Fun K "either" "either" s_either a_either d_either
  g_either : mg "either" = some (.ref a_either)
  b_either : Binds K d_either ["condition", "other"] []
  a_but_not : Addr
  d_but_not : FuncData
  F_but_not : Fun K "but_not" "but_not" s_but_not a_but_not d_but_not
  g_but_not : mg "but_not" = some (.ref a_but_not)
  b_but_not : Binds K d_but_not ["condition", "other"] []
  a_switched : Addr
  d_switched : FuncData
  F_switched : Fun K "switched" "switched" s_switched a_switched d_switched
  g_switched : mg "switched" = some (.ref a_switched)
  b_switched : Binds K d_switched ["switch", "on", "off"] []
  a_fixed : Addr
  d_fixed : FuncData
  F_fixed : Fun K "fixed" "fixed" s_fixed a_fixed d_fixed
  g_fixed : mg "fixed" = some (.ref a_fixed)
  b_fixed : Binds K d_fixed ["condition", "switch", "on"] []
  a_holds : Addr
  d_holds : FuncData
  F_holds : Fun K "holds" "holds" s_holds a_holds d_holds
  g_holds : mg "holds" = some (.ref a_holds)
  b_holds : Binds K d_holds ["condition", "setting"] []
  a_implies : Addr
  d_implies : FuncData
  F_implies : Fun K "implies" "implies" s_implies a_implies d_implies
  g_implies : mg "implies" = some (.ref a_implies)
  b_implies : Binds K d_implies ["condition", "other"] []
  a_switches_of : Addr
  d_switches_of : FuncData
  F_switches_of : Fun K "switches_of" "switches_of" s_switches_of a_switches_of d_switches_of
  g_switches_of : mg "switches_of" = some (.ref a_switches_of)
  b_switches_of : Binds K d_switches_of ["condition"] []
  a_stirred : Addr
  d_stirred : FuncData
  F_stirred : Fun K "_law_stirred" "_law_stirred" s_stirred a_stirred d_stirred
  g_stirred : mg "_law_stirred" = some (.ref a_stirred)
  b_stirred : Binds K d_stirred ["_law_number", "_law_turn"] []
  a_take : Addr
  d_take : FuncData
  F_take : Fun K "_law_take" "_law_take" s_take a_take d_take
  g_take : mg "_law_take" = some (.ref a_take)
  b_take : Binds K d_take ["_law_hand_here", "_law_many"] []
  a_turned : Addr
  d_turned : FuncData
  F_turned : Fun K "_law_turned" "_law_turned" s_turned a_turned d_turned
  g_turned : mg "_law_turned" = some (.ref a_turned)
  b_turned : Binds K d_turned ["_law_k", "_law_many", "_law_at", "_law_on"] []
  a_bits : Addr
  d_bits : FuncData
  F_bits : Fun K "_law_bits" "_law_bits" s_bits a_bits d_bits
  g_bits : mg "_law_bits" = some (.ref a_bits)
  b_bits : Binds K d_bits ["_law_hand_here", "_law_many"] []
  a_form : Addr
  d_form : FuncData
  F_form : Fun K "_law_form" "_law_form" s_form a_form d_form
  g_form : mg "_law_form" = some (.ref a_form)
  b_form : Binds K d_form ["_law_names", "_law_bits_here"] []
  a_whole : Addr
  d_whole : FuncData
  F_whole : Fun K "_law_whole" "_law_whole" s_whole a_whole d_whole
  g_whole : mg "_law_whole" = some (.ref a_whole)
  b_whole : Binds K d_whole ["_law_thing"] []
  a_alike : Addr
  d_alike : FuncData
  F_alike : Fun K "_law_alike" "_law_alike" s_alike a_alike d_alike
  g_alike : mg "_law_alike" = some (.ref a_alike)
  b_alike : Binds K d_alike ["_law_told", "_law_due"] []
  a_matter : Addr
  d_matter : FuncData
  F_matter : Fun K "_law_matter" "_law_matter" s_matter a_matter d_matter
  g_matter : mg "_law_matter" = some (.ref a_matter)
  b_matter : Binds K d_matter ["_law_names", "_law_row"] []
  a_shuffled : Addr
  d_shuffled : FuncData
  F_shuffled : Fun K "_law_shuffled" "_law_shuffled" s_shuffled a_shuffled d_shuffled
  g_shuffled : mg "_law_shuffled" = some (.ref a_shuffled)
  b_shuffled : Binds K d_shuffled ["_law_hand_here", "_law_things"] []
  a_muddled : Addr
  d_muddled : FuncData
  F_muddled : Fun K "_law_muddled" "_law_muddled" s_muddled a_muddled d_muddled
  g_muddled : mg "_law_muddled" = some (.ref a_muddled)
  b_muddled : Binds K d_muddled ["_law_hand_here", "_law_setting"] []
  a_hand : Addr
  d_hand : FuncData
  F_hand : Fun K "_law_hand" "_law_hand" s_hand a_hand d_hand
  g_hand : mg "_law_hand" = some (.ref a_hand)
  b_hand : Binds K d_hand ["_law_script"] []
  a_switch_names : Addr
  d_switch_names : FuncData
  F_switch_names : Fun K "_law_switch_names" "_law_switch_names" s_switch_names a_switch_names d_switch_names
  g_switch_names : mg "_law_switch_names" = some (.ref a_switch_names)
  b_switch_names : Binds K d_switch_names ["_law_hand_here", "_law_many"] []
  a_settings : Addr
  d_settings : FuncData
  F_settings : Fun K "_law_settings" "_law_settings" s_settings a_settings d_settings
  g_settings : mg "_law_settings" = some (.ref a_settings)
  b_settings : Binds K d_settings ["_law_names"] []
  a_stepped : Addr
  d_stepped : FuncData
  F_stepped : Fun K "_law_stepped" "_law_stepped" s_stepped a_stepped d_stepped
  g_stepped : mg "_law_stepped" = some (.ref a_stepped)
  b_stepped : Binds K d_stepped ["_law_hand_here", "_law_names", "_law_pool", "_law_rows"] []
  a_asked_k00 : Addr
  d_asked_k00 : FuncData
  F_asked_k00 : Fun K "_law_asked_k00" "_law_asked_k00" s_asked_k00 a_asked_k00 d_asked_k00
  g_asked_k00 : mg "_law_asked_k00" = some (.ref a_asked_k00)
  b_asked_k00 : Binds K d_asked_k00 ["_law_hand_here", "_law_names", "_law_settings_here", "_law_condition", "_law_row"] []
  a_law : Addr
  d_law : FuncData
  F_law : Fun K "law" "law" s_law a_law d_law
  g_law : mg "law" = some (.ref a_law)
  b_law : Binds K d_law ["_law_script"] []
  z_abs : mg "abs" = none
  z_bool : mg "bool" = none
  z_int : mg "int" = none
  z_isinstance : mg "isinstance" = none
  z_len : mg "len" = none
  z_list : mg "list" = none
  z_max : mg "max" = none
  z_min : mg "min" = none
  z_range : mg "range" = none
  z_reversed : mg "reversed" = none
  z_sorted : mg "sorted" = none
  z_str : mg "str" = none
  z_tuple : mg "tuple" = none
/-! ### steps of a reading -/
local macro_rules | `(tactic| walk_at "sd") => `(tactic| first | omega | assumption | (unfold CMul; omega) | (unfold CDiv; omega) | (unfold CPow; omega) | (unfold CPow; decide) | decide)
local macro_rules | `(tactic| walk_at "rd1") => `(tactic| first
  | with_reducible refine tC_i ?_
  | with_reducible refine tNil_i ?_
  | with_reducible refine tCons_i ?_
  | refine ⟨_, rfl, ?_⟩
  | refine ⟨_, _, rfl, rfl, (by walk_at "sd"), ?_⟩
  | refine ⟨_, _, rfl, rfl, ?_⟩
  | refine Or.inl ⟨_, _, rfl, rfl, ?_⟩
  | refine Or.inl ⟨_, rfl, ?_⟩
  | refine ixL (by assumption) (by walk_at "sd") (by rfl) ?_
  | refine ixT (by assumption) (by walk_at "sd") (by rfl) ?_
  | refine ⟨_, _, rfl, lenL (by assumption), ?_⟩
  | refine ⟨_, _, rfl, lenL upd_same, ?_⟩
  | refine ⟨_, _, rfl, lenT (by assumption), ?_⟩
  | refine set1 (by assumption) ?_ | refine set2 (by assumption) ?_ | refine set3 (by assumption) ?_
  | refine set1 upd_same ?_ | refine set2 upd_same ?_ | refine set3 upd_same ?_
  | refine ixL upd_same (by decide) (by rfl) ?_
  | refine ⟨_, .inl ⟨_, SqL.of (by assumption), rfl⟩, ?_⟩
  | refine ⟨tyL (by assumption), ?_⟩ | refine ⟨tyL upd_same, ?_⟩
  | refine And.intro (by omega) ?_
  | refine ite2 (fun _ => ?_) (fun z => absurd rfl z)
  | refine ite2 (fun z => absurd z Bool.false_ne_true) (fun _ => ?_)
  | refine eqD_int ?_ | refine neD_int ?_ | refine eqD_bl ?_ | refine neD_bl ?_)
local macro_rules | `(tactic| walk_at "rd2") => `(tactic| first | walk_at "rd1" | refine And.intro rfl ?_ | refine lcYes ?_)
local macro_rules | `(tactic| walk_at "rd3") => `(tactic| first
  | walk_at "rd2"
  | with_reducible refine tNoPart_i ?_
  | refine isi_bl true (by decide +kernel) ?_ | refine isi_bl false (by decide +kernel) ?_
  | refine isi_int true (by decide +kernel) ?_ | refine isi_int false (by decide +kernel) ?_
  | refine isi_str true (by decide +kernel) ?_ | refine isi_str false (by decide +kernel) ?_
  | refine isi_non false (by decide +kernel) ?_
  | refine isi_tup (by assumption) true (by decide +kernel) ?_ | refine isi_tup (by assumption) false (by decide +kernel) ?_
  | refine isi_lst (by assumption) true (by decide +kernel) ?_ | refine isi_lst (by assumption) false (by decide +kernel) ?_)
/-! ### the hand -/
structure Hand (G H : Hp) (h : Addr) : Prop where
  g : G h = none
  ex : ∃ (c : Addr) (cells : List Int) (at_ rest seed : Int), H h = some (.lst [.ref c, .int at_, .int rest, .int seed]) ∧ G c = some (.lst (cells.map V.int)) ∧ cells.length ≤ 63 ∧ (∀ x ∈ cells, 0 ≤ x) ∧
    0 ≤ at_ ∧ at_ ≤ 63 ∧ 0 ≤ rest ∧ 0 ≤ seed ∧ seed < 2147483543
theorem Hand.ne {G H : Hp} {h : Addr} (a : Hand G H h) : H h ≠ none := by
  obtain ⟨c, cells, at_, rest, seed, e, _⟩ := a.ex
  rw [e]
  exact fun z => nomatch z
theorem Hand.up {M : List Addr} {G H G' H' : Hp} {h : Addr} (a : Hand G H h) (E : Ex M G H G' H') (m : h ∉ M) : Hand G' H' h := by
  obtain ⟨c, cells, at_, rest, seed, e, e2, r⟩ := a.ex
  exact ⟨E.out a.g e, c, cells, at_, rest, seed, E.at_ e m, E.gg _ _ e2, r⟩
theorem Hand.pure {G H G' H' : Hp} {h : Addr} (a : Hand G H h) (E : Ex [] G H G' H') : Hand G' H' h := a.up E (fun z => nomatch z)
theorem Hand.wr {G H : Hp} {h D : Addr} {o : HO} (a : Hand G H h) (n : D ≠ h) : Hand G (upd H D o) h := by
  obtain ⟨c, cells, at_, rest, seed, e, e2, r⟩ := a.ex
  exact ⟨a.g, c, cells, at_, rest, seed, by rw [upd_ne n.symm]; exact e, e2, r⟩
theorem Hand.gr {G H : Hp} {h D : Addr} {o : HO} (a : Hand G H h) (n : D ≠ h) (g : G D = none) : Hand (upd G D o) H h := by
  obtain ⟨c, cells, at_, rest, seed, e, e2, r⟩ := a.ex
  exact ⟨by rw [upd_ne n.symm]; exact a.g, c, cells, at_, rest, seed, e, by rw [upd_ne (ne_of_none e2 g)]; exact e2, r⟩
theorem Hand.dif {G H : Hp} {h D : Addr} (a : Hand G H h) (n : H D = none) : D ≠ h := fun z => a.ne (by rw [← z]; exact n)
section
variable {P : Program} {w : World} {K : PySem.W.Frag} {mg : Str → Option Value} {base : Heap}
def spStirred : Sp := fun vs H Q _ => ∃ n t : Int, vs = [.int n, .int t] ∧ 0 ≤ n ∧ n < 2147483543 ∧ 0 ≤ t ∧ t ≤ 64 ∧ ∀ r, 0 ≤ r → Q (.int r) H
theorem ok_stirred (T : Tp K mg) : FnOk P w K mg base CX0 1 T.a_stirred T.d_stirred ["_law_number", "_law_turn"] spStirred := by
  refine T.F_stirred.ok sc_stirred (fun vs H Q E h => ?_) (fun cdv A outer s H vs Q E hr h => ?_)
  · obtain ⟨n, t, rfl, _⟩ := h; rfl
  obtain ⟨n, t, rfl, n0, n1, t0, t1, q⟩ := h
  refine ⟨_, (pss_cons (ps_set (i := 2) sc_stirred.nd rfl (Or.inl rfl) (pe_op op_mod (pe_callTy call_int1 (by rfl) T.z_int (by decide +kernel) (pa_cons (pe_op (op_addAK (K := K) rfl) (pe_op (op_addAK (K := K) rfl) (pe_op op_mul (pv 0) pe_int) (pe_op op_mul (pv 1) pe_int)) pe_int) pa_nil)) pe_int))
  (pss_cons (ps_set (i := 3) sc_stirred.nd rfl (Or.inl rfl) (pe_op op_mod (pe_callTy call_int1 (by rfl) T.z_int (by decide +kernel) (pa_cons (pe_op (op_addAK (K := K) rfl) (pe_op (op_addAK (K := K) rfl) (pe_op op_mul (pv 2) (pv 2)) (pe_op op_mul (pv 1) pe_int)) (pe_op op_fdiv (pv 2) pe_int)) pa_nil)) pe_int))
  (pss_one (ps_ret (pe_op op_fdiv (pe_callTy call_int1 (by rfl) T.z_int (by decide +kernel) (pa_cons (pe_op op_mod (pe_callTy call_int1 (by rfl) T.z_int (by decide +kernel) (pa_cons (pe_op (op_addAK (K := K) rfl) (pe_op op_mul (pv 3) pe_int) (pe_op op_fdiv (pv 2) pe_int)) pa_nil)) pe_int) pa_nil)) pe_int))))), ?_⟩
  have a0 := Int.emod_nonneg (n * 48017 + t * 8821 + 70001) (by decide : (2147483423 : Int) ≠ 0)
  have a1 := Int.emod_lt_of_pos (n * 48017 + t * 8821 + 70001) (by decide : (0 : Int) < 2147483423)
  repeat walk_at "rd1"
  generalize ea : (n * 48017 + t * 8821 + 70001) % 2147483423 = a at a0 a1
  exact q _ (Int.ediv_nonneg (Int.emod_nonneg _ (by decide)) (by decide))
/-- a draw -/
def spTake (K : PySem.W.Frag) : Sp := fun vs H Q _ => ∃ (h : Addr) (many : Int) (G : Hp), vs = [.ref h, .int many] ∧ Same G H ∧ Hand G H h ∧ 0 < many ∧ many < 1000000 ∧
  ∀ G' H' r, Ex [h] G H G' H' → Hand G' H' h → 0 ≤ r → r < many → Q (.int r) H'
theorem ok_take (T : Tp K mg) : FnOk P w K mg base CX0 2 T.a_take T.d_take ["_law_hand_here", "_law_many"] (spTake K) := by
  have G_stirred := ok_stirred (P := P) (w := w) (base := base) T
  refine T.F_take.ok sc_take (fun vs H Q E h => ?_) (fun cdv A outer s H vs Q E hr h => ?_)
  · obtain ⟨n, t, _, rfl, _⟩ := h; rfl
  obtain ⟨h, many, G, rfl, sm, hd, m0, m1, q⟩ := h
  have hu64 := hr.units
  refine ⟨_, (pss_cons (ps_if (PW.pt (pw_and (pt_cmpR (op_eqDK (K := K) rfl hu64) (pe_ix (ix_seqK (K := K) rfl) (pv 0) pe_int (fun _ _ => rfl)) pe_int (nomark _)) (pw_and1 (pt_cmpR op_ltA (pe_ix (ix_seqK (K := K) rfl) (pv 0) pe_int (fun _ _ => rfl)) (pe_callB (call_lenK (K := K) rfl) (by rfl) T.z_len (by decide +kernel) (pa_cons (pe_ix (ix_seqK (K := K) rfl) (pv 0) pe_int (fun _ _ => rfl)) pa_nil)) (nomark _)))))
  (pss_cons (ps_set (i := 2) sc_take.nd rfl (Or.inl rfl) (pe_ix (ix_seqK (K := K) rfl) (pe_ix (ix_seqK (K := K) rfl) (pv 0) pe_int (fun _ _ => rfl)) (pe_ix (ix_seqK (K := K) rfl) (pv 0) pe_int (fun _ _ => rfl)) (fun _ _ => rfl)))
  (pss_cons (ps_asg (pe_op (op_addAK (K := K) rfl) (pe_ix (ix_seqK (K := K) rfl) (pv 0) pe_int (fun _ _ => rfl)) pe_int) (pg_sub (pv 0) pe_int set_list))
  (pss_cons (ps_if (pt_cmpR op_ltA (pv 2) (pe_op op_pow pe_int pe_int) (nomark _))
  (pss_one (ps_ret (pe_op op_mod (pe_callTy call_int1 (by rfl) T.z_int (by decide +kernel) (pa_cons (pe_call G_stirred (hr.mono (by omega)) (by rfl) T.g_stirred T.F_stirred.kp T.b_stirred .nil pass0 (pa_cons (pe_op op_mod (pe_callTy call_int1 (by rfl) T.z_int (by decide +kernel) (pa_cons (pv 2) pa_nil)) pe_int) (pa_cons (pe_ix (ix_seqK (K := K) rfl) (pv 0) pe_int (fun _ _ => rfl)) pa_nil))) pa_nil)) (pv 1))))
  pss_nil)
  (pss_one (ps_asg (pv 2) (pg_sub (pv 0) pe_int set_list))))))
  pss_nil)
  (pss_cons (ps_if (pt_cmpR op_gtA (pe_ix (ix_seqK (K := K) rfl) (pv 0) pe_int (fun _ _ => rfl)) pe_int (nomark _))
  (pss_cons (ps_set (i := 3) sc_take.nd rfl (Or.inl rfl) (pe_ix (ix_seqK (K := K) rfl) (pv 0) pe_int (fun _ _ => rfl)))
  (pss_cons (ps_asg (pe_op op_fdiv (pe_callTy call_int1 (by rfl) T.z_int (by decide +kernel) (pa_cons (pv 3) pa_nil)) (pv 1)) (pg_sub (pv 0) pe_int set_list))
  (pss_one (ps_ret (pe_op op_mod (pe_callTy call_int1 (by rfl) T.z_int (by decide +kernel) (pa_cons (pv 3) pa_nil)) (pv 1))))))
  pss_nil)
  (pss_cons (ps_asg (pe_op op_mod (pe_callTy call_int1 (by rfl) T.z_int (by decide +kernel) (pa_cons (pe_op (op_addAK (K := K) rfl) (pe_ix (ix_seqK (K := K) rfl) (pv 0) pe_int (fun _ _ => rfl)) pe_int) pa_nil)) pe_int) (pg_sub (pv 0) pe_int set_list))
  (pss_one (ps_ret (pe_op op_mod (pe_callTy call_int1 (by rfl) T.z_int (by decide +kernel) (pa_cons (pe_call G_stirred (hr.mono (by omega)) (by rfl) T.g_stirred T.F_stirred.kp T.b_stirred .nil pass0 (pa_cons (pe_ix (ix_seqK (K := K) rfl) (pv 0) pe_int (fun _ _ => rfl)) (pa_cons (pe_ix (ix_seqK (K := K) rfl) (pv 0) pe_int (fun _ _ => rfl)) pa_nil))) pa_nil)) (pv 1))))))), ?_⟩
  obtain ⟨gn, c, cells, at_, rest, seed, eh, ec, cl, c0, a0, a1, r0, s0, s1⟩ := hd
  have nc : c ≠ h := fun z => by rw [z, gn] at ec; cases ec
  have ech : H c = some (.lst (cells.map V.int)) := sm _ _ ec
  -- the hand, changed
  have go : ∀ (H' : Hp) (at_' rest' seed' : Int), H' = upd H h (.lst [.ref c, .int at_', .int rest', .int seed']) → 0 ≤ at_' → at_' ≤ 63 → 0 ≤ rest' → 0 ≤ seed' → seed' < 2147483543 → Ex [h] G H G H' ∧ Hand G H' h := fun H' at_' rest' seed' e b0 b1 b2 b3 b4 => by
    subst e
    exact ⟨(Ex.refl sm).wr gn (.inl (by simp)), gn, c, cells, at_', rest', seed', upd_same, ec, cl, c0, b0, b1, b2, b3, b4⟩
  -- a number that is handed out as it is
  have fin : ∀ (H' : Hp) (at_' rest' seed' z : Int), H' = upd H h (.lst [.ref c, .int at_', .int rest', .int seed']) → 0 ≤ at_' → at_' ≤ 63 → 0 ≤ rest' → 0 ≤ seed' → seed' < 2147483543 → Q (.int (z % many)) H' := fun H' at_' rest' seed' z e b0 b1 b2 b3 b4 => by
    obtain ⟨E1, h1⟩ := go H' at_' rest' seed' e b0 b1 b2 b3 b4
    exact q G H' _ E1 h1 (Int.emod_nonneg _ (by omega)) (Int.emod_lt_of_pos _ m0)
  repeat walk_at "rd1"
  have tail : ∀ (H1 : Hp) (b1 b2 : Int), H1 h = some (.lst [.ref c, .int b1, .int b2, .int seed]) → True := fun _ _ _ _ => trivial
  refine ite2 (fun c1 => ?_) (fun c1 => ?_)
  · repeat walk_at "rd1"
    refine ite2 (fun c2 => ?_) (fun c2 => ?_)
    · have c2' : at_ < ((cells.map V.int).length : Int) := of_decide_eq_true c2
      rw [List.length_map] at c2'
      have hk : at_.toNat < cells.length := by omega
      have x0 := c0 _ (List.getElem_mem hk)
      repeat walk_at "rd1"
      refine ixL ech a0 (v := .int cells[at_.toNat]) (by rw [List.getElem?_map, List.getElem?_eq_getElem hk]; rfl) ?_
      repeat walk_at "rd1"
      refine ite2 (fun c3 => ?_) (fun c3 => ?_)
      · have y0 := Int.emod_nonneg cells[at_.toNat] (by decide : (2147483423 : Int) ≠ 0)
        have y1 := Int.emod_lt_of_pos cells[at_.toNat] (by decide : (0 : Int) < 2147483423)
        repeat walk_at "rd1"
        refine ⟨_, _, rfl, y0, by omega, by omega, by omega, fun r hr0 => ?_⟩
        repeat walk_at "rd1"
        exact fin _ (at_ + 1) rest seed r rfl (by omega) (by omega) r0 s0 s1
      · have c3' : ¬ cells[at_.toNat] < (10 : Int) ^ (18 : Int).toNat := fun z => c3 (decide_eq_true z)
        have d3 : ¬ cells[at_.toNat] < 1000000000000000000 := c3'
        repeat walk_at "rd1"
        refine ite2 (fun c4 => ?_) (fun c4 => ?_)
        · repeat walk_at "rd1"
          rw [upd_upd, upd_upd]
          exact fin _ (at_ + 1) (cells[at_.toNat] / many) seed _ rfl (by omega) (by omega) (Int.ediv_nonneg x0 (by omega)) s0 s1
        · exact absurd (show decide ((0 : Int) < cells[at_.toNat]) = true from decide_eq_true (by omega)) c4
    · repeat walk_at "rd1"
      refine ite2 (fun c4 => ?_) (fun c4 => ?_)
      · have c4' : 0 < rest := of_decide_eq_true c4
        repeat walk_at "rd1"
        exact fin _ at_ (rest / many) seed _ rfl a0 a1 (Int.ediv_nonneg r0 (by omega)) s0 s1
      · have y0 := Int.emod_nonneg (seed + 1) (by decide : (2147483477 : Int) ≠ 0)
        have y1 := Int.emod_lt_of_pos (seed + 1) (by decide : (0 : Int) < 2147483477)
        repeat walk_at "rd1"
        refine ⟨_, _, rfl, y0, by omega, by omega, by omega, fun r hr0 => ?_⟩
        repeat walk_at "rd1"
        exact fin _ at_ rest ((seed + 1) % 2147483477) _ rfl a0 a1 r0 y0 (by omega)
  · repeat walk_at "rd1"
    refine ite2 (fun c4 => ?_) (fun c4 => ?_)
    · have c4' : 0 < rest := of_decide_eq_true c4
      repeat walk_at "rd1"
      exact fin _ at_ (rest / many) seed _ rfl a0 a1 (Int.ediv_nonneg r0 (by omega)) s0 s1
    · have y0 := Int.emod_nonneg (seed + 1) (by decide : (2147483477 : Int) ≠ 0)
      have y1 := Int.emod_lt_of_pos (seed + 1) (by decide : (0 : Int) < 2147483477)
      repeat walk_at "rd1"
      refine ⟨_, _, rfl, y0, by omega, by omega, by omega, fun r hr0 => ?_⟩
      repeat walk_at "rd1"
      exact fin _ at_ rest ((seed + 1) % 2147483477) _ rfl a0 a1 r0 y0 (by omega)
/-- the hand of a script -/
def spHand (K : PySem.W.Frag) : Sp := fun vs H Q _ => ∃ (a : Addr) (ns : List Int) (G : Hp), vs = [.ref a] ∧ SqL K H a (ns.map V.int) ∧ ns.length ≤ 63 ∧ Same G H ∧
  ∀ G' H' h, Ex [] G H G' H' → Hand G' H' h → Q (.ref h) H'
theorem ok_hand (T : Tp K mg) : FnOk P w K mg base CX0 1 T.a_hand T.d_hand ["_law_script"] (spHand K) := by
  refine T.F_hand.ok sc_hand (fun vs H Q E h => ?_) (fun cdv A outer s H vs Q E hr h => ?_)
  · obtain ⟨n, t, _, rfl, _⟩ := h; rfl
  obtain ⟨a, ns, G, rfl, hS, hl, sm, q⟩ := h
  refine ⟨_, (pss_cons (ps_set (i := 1) sc_hand.nd rfl (Or.inl rfl) (pe_op (op_addAK (K := K) rfl) (pe_op op_mul (pe_callB (call_lenK (K := K) rfl) (by rfl) T.z_len (by decide +kernel) (pa_cons (pv 0) pa_nil)) pe_int) pe_int))
  (pss_cons (ps_set (i := 2) sc_hand.nd rfl (Or.inl rfl) (pe_lst pa_nil))
  (pss_cons (ps_for PassesOwn.never rfl (pi_listK (K := K) rfl (pv 0)) (pg_name (i := 3) sc_hand.nd rfl (Or.inl rfl))
  (pss_cons (ps_set (i := 1) sc_hand.nd rfl (Or.inl rfl) (pe_op op_mod (pe_callTy call_int1 (by rfl) T.z_int (by decide +kernel) (pa_cons (pe_op (op_addAK (K := K) rfl) (pe_op op_mul (pv 1) pe_int) (pe_callTy call_int1 (by rfl) T.z_int (by decide +kernel) (pa_cons (pv 3) pa_nil))) pa_nil)) pe_int))
  (pss_one (ps_expr (pe_bmK (K := K) rfl PySem.F.plainAttrs_list PySem.F.slot_list_append PySem.F.type_list_append mt_append (pv 2) (pa_cons (pe_callB call_abs (by rfl) T.z_abs (by decide +kernel) (pa_cons (pe_callTy call_int1 (by rfl) T.z_int (by decide +kernel) (pa_cons (pv 3) pa_nil)) pa_nil)) pa_nil))))))
  (pss_one (ps_ret (pe_lst (pa_cons (pv 2) (pa_cons pe_int (pa_cons pe_int (pa_cons (pv 1) pa_nil)))))))))), ?_⟩
  repeat walk_at "rd1"
  refine ⟨_, _, rfl, .inl ⟨_, hS, rfl⟩, ?_⟩
  have hl2 : (ns.map V.int).length ≤ 63 := by rw [List.length_map]; exact hl
  repeat walk_at "rd1"
  refine ⟨line_le (Nat.zero_le _), fun p np => ?_⟩
  refine ⟨_, rfl, a, rfl, ⟨_, (show SqL K (upd H p (.lst [])) a (ns.map V.int) from Same.seq (fun b u e => by rw [upd_ne (ne_of_none e np)]; exact e) hS)⟩, ?_⟩
  refine for_list (xs := ns.map V.int) (fun i σ H' => ∃ (t : Int) (cs : List Int) (x : Option V), σ = [some (.ref a), some (.int t), some (.ref p), x] ∧ H' = upd H p (.lst (cs.map V.int)) ∧ cs.length = i ∧ (∀ x ∈ cs, 0 ≤ x) ∧ 0 ≤ t ∧ t < 2147483543)
    ⟨_, [], none, rfl, rfl, rfl, (fun x h => nomatch h), ?_, ?_⟩ (fun i σ H' hi hp => ?_) (fun i x σ H' hx hp => ?_) (fun σ H' hp => ?_)
  · omega
  · omega
  · obtain ⟨t, cs, x, _, rfl, _⟩ := hp
    exact Same.seq (fun b u e => by rw [upd_ne (ne_of_none e np)]; exact e) hS
  · obtain ⟨t, cs, x0, rfl, rfl, hc, hn, t0, t1⟩ := hp
    rw [List.getElem?_map] at hx
    obtain ⟨z, hz, rfl⟩ := Option.map_eq_some_iff.mp hx
    have hi : i < ns.length := (List.getElem?_eq_some_iff.mp hz).1
    repeat walk_at "rd1"
    refine appL upd_same (by rw [List.length_map]; exact line_lt (by omega)) ?_
    rw [upd_upd]
    refine ⟨_, cs ++ [if z < 0 then -z else z], _, rfl, ?_, by rw [List.length_append]; show cs.length + 1 = _; omega, ?_, Int.emod_nonneg _ (by decide), Int.emod_lt_of_pos _ (by decide)⟩
    · rw [List.map_append]; rfl
    · intro y hy
      rcases List.mem_append.mp hy with hy | hy
      · exact hn y hy
      · have e : y = if z < 0 then -z else z := by simpa using hy
        rw [e]
        split <;> omega
  · obtain ⟨t, cs, x0, rfl, rfl, hc, hn, t0, t1⟩ := hp
    repeat walk_at "rd1"
    refine ⟨line_le (by show 4 ≤ _; decide), fun h nh => ?_⟩
    have ep : (upd H p (.lst (cs.map V.int))) p = some (.lst (cs.map V.int)) := upd_same
    have nhp : p ≠ h := ne_of_none ep nh
    have gp : G p = none := sm.free np
    have E1 : Ex [] G H G (upd H p (.lst (cs.map V.int))) := (Ex.refl sm).new np
    have E2 : Ex [] G H (upd G p (.lst (cs.map V.int))) (upd H p (.lst (cs.map V.int))) := E1.fix gp ep np
    have gh : (upd G p (.lst (cs.map V.int))) h = none := E2.gh.free nh
    refine q _ _ h (E2.new nh) ⟨gh, p, cs, 0, 0, t, upd_same, upd_same, ?_, hn, by decide, by decide, by decide, t0, t1⟩
    rw [List.length_map] at hc
    omega
/-- a list's items in a drawn order -/
def spShuffled (K : PySem.W.Frag) : Sp := fun vs H Q _ => ∃ (h : Addr) (v : V) (ds : List PyData) (G : Hp), vs = [.ref h, v] ∧ Same G H ∧ Hand G H h ∧ Dat G v (.list ds) ∧ ds.length ≤ 1000 ∧
  ∀ G' H' r es, Ex [h] G H G' H' → Hand G' H' h → es.Perm ds → Dat G' r (.list es) → Q r H'
theorem ok_shuffled (T : Tp K mg) : FnOk P w K mg base CX0 3 T.a_shuffled T.d_shuffled ["_law_hand_here", "_law_things"] (spShuffled K) := by
  have G_take := ok_take (P := P) (w := w) (base := base) T
  refine T.F_shuffled.ok sc_shuffled (fun vs H Q E h => ?_) (fun cdv A outer s H vs Q E hr h => ?_)
  · obtain ⟨_, _, _, _, rfl, _⟩ := h; rfl
  obtain ⟨h, v, ds, G, rfl, sm, hd, dv, hl, q⟩ := h
  refine ⟨_, (pss_cons (ps_set (i := 2) sc_shuffled.nd rfl (Or.inr rfl) (pe_callTy (call_listAK (K := K) rfl rfl) (by rfl) T.z_list (by decide +kernel) (pa_cons (pv 1) pa_nil)))
  (pss_one (ps_ret (pe_lc (own := [("_law_k", 3)]) rfl sc_shuffled.nd (pi_range1 (by rfl) T.z_range (pa_cons (pe_callB (call_lenK (K := K) rfl) (by rfl) T.z_len (by decide +kernel) (pa_cons (pv 2) pa_nil)) pa_nil)) (blkOk_by (own := [("_law_k", 3)]) (N := ["_law_hand_here", "_law_things", "_law_left", "_law_k"]) (sc := defScope s_shuffled) (scope := { kind := PySem.ScopeKind.function, names := [ (PySem.Str.ofString ".0", PySem.NameKind.local), (PySem.Str.ofString "_law_k", PySem.NameKind.local), (PySem.Str.ofString "_law_take", PySem.NameKind.globalImplicit), (PySem.Str.ofString "len", PySem.NameKind.globalImplicit), (PySem.Str.ofString "_law_hand_here", PySem.NameKind.free), (PySem.Str.ofString "_law_left", PySem.NameKind.free)], isGenerator := false, isCoroutine := false, more := [] : PySem.Scope }) (by decide +kernel)) (fun _ _ _ _ _ => (pg_name (i := 3) sc_shuffled.nd rfl (Or.inl rfl) (Or.inr rfl))) (fun _ _ _ _ _ => pts_nil) (fun _ _ _ _ _ => (pe_bmK (K := K) rfl PySem.F.plainAttrs_list PySem.F.slot_list_pop PySem.F.type_list_pop mt_popAt (pv 2) (pa_cons (pe_call G_take (hr.mono (by omega)) (by rfl) T.g_take T.F_take.kp T.b_take .nil pass0 (pa_cons (pv 0) (pa_cons (pe_callB (call_lenK (K := K) rfl) (by rfl) T.z_len (by decide +kernel) (pa_cons (pv 2) pa_nil)) pa_nil))) pa_nil))))))), ?_⟩
  obtain ⟨a, xs, rfl, ea, da⟩ := dv.list_inv
  have lx := da.len
  repeat walk_at "rd1"
  refine .inl ⟨a, xs, rfl, .inl (SqL.of (sm _ _ ea)), fun l nl => ?_⟩
  repeat walk_at "rd1"
  have gl : G l = none := sm.free nl
  have nhl : l ≠ h := hd.dif nl
  have E1 : Ex [h] G H G (upd H l (.lst xs)) := (Ex.refl sm).new nl
  have hd1 : Hand G (upd H l (.lst xs)) h := hd.wr nhl
  refine comp_go (M := [h, l]) (fun i acc G' H' => Hand G' H' h ∧ G' l = none ∧ ∃ ws rem, H' l = some (.lst ws) ∧ DatA G' ws rem ∧ (acc ++ rem).Perm ds ∧ rem.length + i = ds.length)
    walk_range E1.gh (line_lt (by omega)) (fun m hm => ?_) (fun _ _ _ => trivial) ⟨hd1, gl, xs, ds, upd_same, da, List.Perm.refl _, rfl⟩ (fun i acc G' H' D o hp n1 n2 => ?_) (fun i acc G' H' D o hp n1 n2 => ?_) (fun i acc G2 H2 hi E2 hp C C' hC hC' => ?_) (fun G' H' r acc E2 dr hacc hp => ?_)
  · rcases List.mem_cons.mp hm with e | hm
    · subst e; exact hd1.ne
    · have e : m = l := by simpa using hm
      subst e; rw [upd_same]; exact fun z => nomatch z
  · obtain ⟨k1, k2, ws, rem, k3, k4, k5, k6⟩ := hp
    have dl : D ≠ l := fun z => by rw [z, upd_same] at n1; cases n1
    exact ⟨k1.wr (hd1.dif n1), k2, ws, rem, by rw [upd_ne dl.symm]; exact k3, k4, k5, k6⟩
  · obtain ⟨k1, k2, ws, rem, k3, k4, k5, k6⟩ := hp
    have dl : D ≠ l := fun z => by rw [z, upd_same] at n1; cases n1
    exact ⟨k1.gr (hd1.dif n1) n2, by rw [upd_ne dl.symm]; exact k2, ws, rem, k3, k4.up (same_updG n2), k5, k6⟩
  · obtain ⟨k1, k2, ws, rem, k3, k4, k5, k6⟩ := hp
    have lw := k4.len
    refine ⟨rfl, lcYes ?_⟩
    repeat walk_at "rd1"
    refine ⟨h, _, G2, rfl, E2.gh, k1, by omega, by omega, fun G3 H3 r E3 k1' r0 r1 => ?_⟩
    repeat walk_at "rd1"
    have hw : r.toNat < ws.length := by omega
    have el : H3 l = some (.lst ws) := E3.at_ k3 (fun z => nhl (by simpa using z))
    have gl3 : G3 l = none := E3.out k2 k3
    have dw := k4.up E3.gg
    have hx : ws[r.toNat]? = some ws[r.toNat] := List.getElem?_eq_getElem hw
    obtain ⟨d, hd', dd⟩ := dw.getV hx
    refine popL el r0 (by omega) hx (by omega) ?_
    have E4 : Ex [h, l] G2 H2 G3 (upd H3 l (.lst (ws.eraseIdx r.toNat))) := (E3.mono (M' := [h, l]) fun m hm => .inl (by simp at hm; simp [hm])).wr gl3 (.inl (by simp))
    refine hC _ G3 _ d E4 dd ⟨k1'.wr nhl, gl3, _, rem.eraseIdx r.toNat, upd_same, dw.erase _, perm_turn hd' k5, ?_⟩
    rw [List.length_eraseIdx, if_pos (by omega)]
    omega
  · obtain ⟨k1, k2, ws, rem, k3, k4, k5, k6⟩ := hp
    have e : rem = [] := List.eq_nil_of_length_eq_zero (by omega)
    subst e
    rw [List.append_nil] at k5
    refine q G' H' r acc (E1.step E2 fun m hm => ?_) k1 k5 dr
    rcases List.mem_cons.mp hm with e | hm
    · subst e; exact .inl (by simp)
    · have e : m = l := by simpa using hm
      subst e; exact .inr nl
/-- a row of drawn truths -/
def spBits (K : PySem.W.Frag) : Sp := fun vs H Q _ => ∃ (h : Addr) (many : Int) (G : Hp), vs = [.ref h, .int many] ∧ Same G H ∧ Hand G H h ∧ 0 ≤ many ∧ many ≤ 1000 ∧
  ∀ (G' H' : Hp) (r : V) (bs : List Bool), Ex [h] G H G' H' → Hand G' H' h → bs.length = many.toNat → Dat G' r (.list (bs.map PyData.bool)) → Q r H'
theorem ok_bits (T : Tp K mg) : FnOk P w K mg base CX0 3 T.a_bits T.d_bits ["_law_hand_here", "_law_many"] (spBits K) := by
  have G_take := ok_take (P := P) (w := w) (base := base) T
  refine T.F_bits.ok sc_bits (fun vs H Q E h => ?_) (fun cdv A outer s H vs Q E hr h => ?_)
  · obtain ⟨_, _, _, rfl, _⟩ := h; rfl
  obtain ⟨h, many, G, rfl, sm, hd, m0, m1, q⟩ := h
  have hu64 := hr.units
  refine ⟨_, (pss_cons (ps_set (i := 2) sc_bits.nd rfl (Or.inl rfl) (pe_call G_take (hr.mono (by omega)) (by rfl) T.g_take T.F_take.kp T.b_take .nil pass0 (pa_cons (pv 0) (pa_cons pe_int pa_nil))))
  (pss_cons (ps_if (pt_cmpR (op_eqDK (K := K) rfl hu64) (pv 2) pe_int (nomark _))
  (pss_cons (ps_set (i := 3) sc_bits.nd rfl (Or.inr rfl) (pe_cmpR (op_eqDK (K := K) rfl hu64) (pe_call G_take (hr.mono (by omega)) (by rfl) T.g_take T.F_take.kp T.b_take .nil pass0 (pa_cons (pv 0) (pa_cons pe_int pa_nil))) pe_int (nomark _)))
  (pss_one (ps_ret (pe_lc (own := [("_law_k", 4)]) rfl sc_bits.nd (pi_range1 (by rfl) T.z_range (pa_cons (pv 1) pa_nil)) (blkOk_by (own := [("_law_k", 4)]) (N := ["_law_hand_here", "_law_many", "_law_turn", "_law_one", "_law_k"]) (sc := defScope s_bits) (scope := { kind := PySem.ScopeKind.function, names := [ (PySem.Str.ofString ".0", PySem.NameKind.local), (PySem.Str.ofString "_law_k", PySem.NameKind.local), (PySem.Str.ofString "_law_one", PySem.NameKind.free)], isGenerator := false, isCoroutine := false, more := [] : PySem.Scope }) (by decide +kernel)) (fun _ _ _ _ _ => (pg_name (i := 4) sc_bits.nd rfl (Or.inl rfl) (Or.inr rfl))) (fun _ _ _ _ _ => pts_nil) (fun _ _ _ _ _ => (pv 3))))))
  pss_nil)
  (pss_cons (ps_if (pt_cmpR (op_eqDK (K := K) rfl hu64) (pv 2) pe_int (nomark _))
  (pss_one (ps_ret (pe_lc (own := [("_law_k", 4)]) rfl sc_bits.nd (pi_range1 (by rfl) T.z_range (pa_cons (pv 1) pa_nil)) (blkOk_by (own := [("_law_k", 4)]) (N := ["_law_hand_here", "_law_many", "_law_turn", "_law_one", "_law_k"]) (sc := defScope s_bits) (scope := { kind := PySem.ScopeKind.function, names := [ (PySem.Str.ofString ".0", PySem.NameKind.local), (PySem.Str.ofString "_law_k", PySem.NameKind.local), (PySem.Str.ofString "_law_take", PySem.NameKind.globalImplicit), (PySem.Str.ofString "_law_hand_here", PySem.NameKind.free)], isGenerator := false, isCoroutine := false, more := [] : PySem.Scope }) (by decide +kernel)) (fun _ _ _ _ _ => (pg_name (i := 4) sc_bits.nd rfl (Or.inl rfl) (Or.inr rfl))) (fun _ _ _ _ _ => pts_nil) (fun _ _ _ _ _ => (pe_cmpR (op_eqDK (K := K) rfl hu64) (pe_call G_take (hr.mono (by omega)) (by rfl) T.g_take T.F_take.kp T.b_take .nil pass0 (pa_cons (pv 0) (pa_cons pe_int pa_nil))) pe_int (nomark _))))))
  pss_nil)
  (pss_one (ps_ret (pe_lc (own := [("_law_k", 4)]) rfl sc_bits.nd (pi_range1 (by rfl) T.z_range (pa_cons (pv 1) pa_nil)) (blkOk_by (own := [("_law_k", 4)]) (N := ["_law_hand_here", "_law_many", "_law_turn", "_law_one", "_law_k"]) (sc := defScope s_bits) (scope := { kind := PySem.ScopeKind.function, names := [ (PySem.Str.ofString ".0", PySem.NameKind.local), (PySem.Str.ofString "_law_k", PySem.NameKind.local), (PySem.Str.ofString "_law_take", PySem.NameKind.globalImplicit), (PySem.Str.ofString "_law_hand_here", PySem.NameKind.free)], isGenerator := false, isCoroutine := false, more := [] : PySem.Scope }) (by decide +kernel)) (fun _ _ _ _ _ => (pg_name (i := 4) sc_bits.nd rfl (Or.inl rfl) (Or.inr rfl))) (fun _ _ _ _ _ => pts_nil) (fun _ _ _ _ _ => (pe_cmpR (op_eqDK (K := K) rfl hu64) (pe_call G_take (hr.mono (by omega)) (by rfl) T.g_take T.F_take.kp T.b_take .nil pass0 (pa_cons (pv 0) (pa_cons pe_int pa_nil))) pe_int (nomark _))))))))), ?_⟩
  -- a row of draws
  have row : ∀ (G1 H1 : Hp) (σ : L2.St) (c : Int) (f : Int → Bool) (te : TE), True := fun _ _ _ _ _ _ => trivial
  repeat walk_at "rd1"
  refine ⟨h, _, G, rfl, sm, hd, by omega, by omega, fun G1 H1 r E1 h1 r0 r1 => ?_⟩
  repeat walk_at "rd1"
  refine ite2 (fun c1 => ?_) (fun c1 => ?_)
  · repeat walk_at "rd1"
    refine ⟨h, _, G1, rfl, E1.gh, h1, by omega, by omega, fun G2 H2 r E2 h2 r0 r1 => ?_⟩
    repeat walk_at "rd1"
    refine comp_go (M := [h]) (fun i acc G' H' => Hand G' H' h ∧ ∃ bs : List Bool, acc = bs.map PyData.bool ∧ bs.length = i)
      walk_range E2.gh (line_lt (by omega)) (fun m hm => ?_) (fun _ _ _ => trivial) ⟨h2, [], rfl, rfl⟩ (fun i acc G' H' D o hp n1 n2 => ⟨hp.1.wr (h2.dif n1), hp.2⟩) (fun i acc G' H' D o hp n1 n2 => ⟨hp.1.gr (h2.dif n1) n2, hp.2⟩) (fun i acc G3 H3 hi E3 hp C C' hC hC' => ?_) (fun G' H' r acc E3 dr hacc hp => ?_)
    · have e : m = h := by simpa using hm
      rw [e]; exact h2.ne
    · refine ⟨rfl, lcYes ?_⟩
      repeat walk_at "rd1"
      obtain ⟨k1, bs, rfl, k2⟩ := hp
      exact hC _ G3 H3 (.bool (r == 1)) (Ex.refl E3.gh) (.bl _) ⟨k1, bs ++ [r == 1], by rw [List.map_append]; rfl, by rw [List.length_append, k2]; rfl⟩
    · obtain ⟨k1, bs, rfl, k2⟩ := hp
      exact q G' H' r bs ((E1.trans E2).trans E3) k1 k2 dr
  · repeat walk_at "rd1"
    refine ite2 (fun c2 => ?_) (fun c2 => ?_)
    · repeat walk_at "rd1"
      refine comp_go (M := [h]) (fun i acc G' H' => Hand G' H' h ∧ ∃ bs : List Bool, acc = bs.map PyData.bool ∧ bs.length = i)
        walk_range E1.gh (line_lt (by omega)) (fun m hm => ?_) (fun _ _ _ => trivial) ⟨h1, [], rfl, rfl⟩ (fun i acc G' H' D o hp n1 n2 => ⟨hp.1.wr (h1.dif n1), hp.2⟩) (fun i acc G' H' D o hp n1 n2 => ⟨hp.1.gr (h1.dif n1) n2, hp.2⟩) (fun i acc G3 H3 hi E3 hp C C' hC hC' => ?_) (fun G' H' r acc E3 dr hacc hp => ?_)
      · have e : m = h := by simpa using hm
        rw [e]; exact h1.ne
      · refine ⟨rfl, lcYes ?_⟩
        obtain ⟨k1, bs, rfl, k2⟩ := hp
        repeat walk_at "rd1"
        refine ⟨h, _, G3, rfl, E3.gh, k1, by omega, by omega, fun G4 H4 z E4 h4 z0 z1 => ?_⟩
        repeat walk_at "rd1"
        exact hC _ G4 H4 (.bool _) E4 (.bl _) ⟨h4, bs ++ [_], by rw [List.map_append]; rfl, by rw [List.length_append, k2]; rfl⟩
      · obtain ⟨k1, bs, rfl, k2⟩ := hp
        exact q G' H' r bs (E1.trans E3) k1 k2 dr
    · repeat walk_at "rd1"
      refine comp_go (M := [h]) (fun i acc G' H' => Hand G' H' h ∧ ∃ bs : List Bool, acc = bs.map PyData.bool ∧ bs.length = i)
        walk_range E1.gh (line_lt (by omega)) (fun m hm => ?_) (fun _ _ _ => trivial) ⟨h1, [], rfl, rfl⟩ (fun i acc G' H' D o hp n1 n2 => ⟨hp.1.wr (h1.dif n1), hp.2⟩) (fun i acc G' H' D o hp n1 n2 => ⟨hp.1.gr (h1.dif n1) n2, hp.2⟩) (fun i acc G3 H3 hi E3 hp C C' hC hC' => ?_) (fun G' H' r acc E3 dr hacc hp => ?_)
      · have e : m = h := by simpa using hm
        rw [e]; exact h1.ne
      · refine ⟨rfl, lcYes ?_⟩
        obtain ⟨k1, bs, rfl, k2⟩ := hp
        repeat walk_at "rd1"
        refine ⟨h, _, G3, rfl, E3.gh, k1, by omega, by omega, fun G4 H4 z E4 h4 z0 z1 => ?_⟩
        repeat walk_at "rd1"
        exact hC _ G4 H4 (.bool _) E4 (.bl _) ⟨h4, bs ++ [_], by rw [List.map_append]; rfl, by rw [List.length_append, k2]; rfl⟩
      · obtain ⟨k1, bs, rfl, k2⟩ := hp
        exact q G' H' r bs (E1.trans E3) k1 k2 dr
end
/-! ### conditions -/
section
variable {P : Program} {w : World} {K : PySem.W.Frag} {mg : Str → Option Value} {base : Heap}
def spSwitch (K : PySem.W.Frag) : Sp := fun vs H Q _ => ∃ (s : Str) (G : Hp), vs = [.str s] ∧ Same G H ∧ ∀ G' H' r, Ex [] G H G' H' → Dat G' r (C.nd s (.b true) (.b false)).enc → Q r H'
theorem ok_switch_condition (T : Tp K mg) : FnOk P w K mg base CX0 1 T.a_switch_condition T.d_switch_condition ["switch"] (spSwitch K) := by
  refine T.F_switch_condition.ok sc_switch_condition (fun vs H Q E h => ?_) (fun cdv A outer s H vs Q E hr h => ?_)
  · obtain ⟨_, _, rfl, _⟩ := h; rfl
  obtain ⟨z, G, rfl, sm, q⟩ := h
  refine ⟨_, (pss_one (ps_ret (pe_tup (pa_cons (pv 0) (pa_cons pe_bl (pa_cons pe_bl pa_nil)))))), ?_⟩
  repeat walk_at "rd1"
  exact ⟨line_le (by show 3 ≤ _; decide), fun p np => q _ _ _ ((Ex.refl sm).dat np) (Dat.newT (.cons (.str z) (.cons (.bl _) (.cons (.bl _) .nil))) (sm.free np))⟩
/-- a switch and its two sides -/
def spFormed (K : PySem.W.Frag) : Sp := fun vs H Q _ => ∃ (s : Str) (v1 v2 : V) (ns : List Str) (c d : C) (G : Hp), vs = [.str s, v1, v2] ∧ Same G H ∧ NS ns ∧ OC ns c ∧ OC ns d ∧ Dat G v1 c.enc ∧ Dat G v2 d.enc ∧
  ∀ G' H' r, Ex [] G H G' H' → Dat G' r (C.formed s c d).enc → Q r H'
theorem ok_formed (T : Tp K mg) : FnOk P w K mg base CX0 1 T.a_formed T.d_formed ["switch", "on", "off"] (spFormed K) := by
  refine T.F_formed.ok sc_formed (fun vs H Q E h => ?_) (fun cdv A outer s H vs Q E hr h => ?_)
  · obtain ⟨_, _, _, _, _, _, _, rfl, _⟩ := h; rfl
  obtain ⟨z, v1, v2, ns, c, d, G, rfl, sm, hn, hc, hd, d1, d2, q⟩ := h
  have hu64 := hr.units
  refine ⟨_, (pss_cons (ps_if (pt_cmpR (op_eqDK (K := K) rfl hu64) (pv 1) (pv 2) (nomark _))
  (pss_one (ps_ret (pv 1)))
  pss_nil)
  (pss_one (ps_ret (pe_tup (pa_cons (pv 0) (pa_cons (pv 1) (pa_cons (pv 2) pa_nil))))))), ?_⟩
  repeat walk_at "rd1"
  refine eqD_of d1 d2 sm (hc.shaped hn) (hd.shaped hn) ?_
  rw [C.eqv_iff]
  repeat walk_at "rd1"
  refine ite2 (fun e => ?_) (fun e => ?_)
  · have e : c = d := of_decide_eq_true e
    repeat walk_at "rd1"
    refine q G H _ (Ex.refl sm) ?_
    unfold C.formed
    rw [if_pos e]
    exact d1
  · have e : ¬ c = d := fun z => e (decide_eq_true z)
    repeat walk_at "rd1"
    refine ⟨line_le (by show 3 ≤ _; decide), fun p np => q _ _ _ ((Ex.refl sm).dat np) ?_⟩
    unfold C.formed
    rw [if_neg e]
    exact Dat.newT (.cons (.str z) (.cons d1 (.cons d2 .nil))) (sm.free np)
/-- one side -/
def spSide (K : PySem.W.Frag) : Sp := fun vs H Q _ => ∃ (v : V) (s : Str) (o : Bool) (ns : List Str) (c : C) (G : Hp), vs = [v, .str s, .bl o] ∧ Same G H ∧ NS ns ∧ OC ns c ∧ PyData.strOk s = true ∧ Dat G v c.enc ∧ ∀ r, Dat G r (c.side s o).enc → Q r H
theorem ok_side_of (T : Tp K mg) : FnOk P w K mg base CX0 1 T.a_side_of T.d_side_of ["condition", "switch", "on"] (spSide K) := by
  refine T.F_side_of.ok sc_side_of (fun vs H Q E h => ?_) (fun cdv A outer s H vs Q E hr h => ?_)
  · obtain ⟨_, _, _, _, _, _, rfl, _⟩ := h; rfl
  obtain ⟨v, z, o, ns, c, G, rfl, sm, hn, hc, hz, d1, q⟩ := h
  have hu64 := hr.units
  refine ⟨_, (pss_cons (ps_if (PW.pt (pw_or (pt_truthK (K := K) rfl (pe_callB (call_isiK' (K := K) rfl) (by rfl) T.z_isinstance (by decide +kernel) (pa_cons (pv 0) (pa_cons (pe_bltn (v := V.ty "bool") (u := Value.type "bool") (by rfl) T.z_bool (by decide +kernel) rfl) pa_nil))) (by intro _; rfl)) (pw_or1 (pt_cmpR (op_neDK (K := K) rfl hu64) (pe_ix (ix_seqK (K := K) rfl) (pv 0) pe_int (fun _ _ => rfl)) (pv 1) (nomark _)))))
  (pss_one (ps_ret (pv 0)))
  pss_nil)
  (pss_one (ps_ret (pe_ifExp (pt_truthK (K := K) rfl (pv 2) (by intro _; rfl)) (pe_ix (ix_seqK (K := K) rfl) (pv 0) pe_int (fun _ _ => rfl)) (pe_ix (ix_seqK (K := K) rfl) (pv 0) pe_int (fun _ _ => rfl)))))), ?_⟩
  rcases d1.c_inv with ⟨b, rfl, rfl⟩ | ⟨t, x, y, a, vx, vy, rfl, rfl, ea, dx, dy⟩
  · repeat walk_at "rd1"
    refine isi_of (c := "bool") true d1 sm (show kitB "bool" "bool" = some true by decide +kernel) ?_
    repeat walk_at "rd1"
    exact q _ d1
  · have ht : PyData.strOk t = true := (hn.ok t (hc.vars t List.mem_cons_self)).1
    have eH := sm _ _ ea
    repeat walk_at "rd1"
    refine isi_of (c := "bool") false d1 sm (show kitB "tuple" "bool" = some false by decide +kernel) ?_
    repeat walk_at "rd1"
    refine neD_str ht hz ?_
    repeat walk_at "rd1"
    refine ite2 (fun e => ?_) (fun e => ?_)
    · have e : ¬ t = z := by simpa using e
      repeat walk_at "rd1"
      refine q _ ?_
      show Dat G _ (if t = z then (if o then x else y) else .nd t x y).enc
      rw [if_neg e]
      exact d1
    · have e : t = z := by simpa using e
      have r : C.side (.nd t x y) z o = if o then x else y := by
        show (if t = z then (if o then x else y) else .nd t x y) = _
        rw [if_pos e]
      rw [r] at q
      repeat walk_at "rd1"
      cases o with
      | true =>
        repeat walk_at "rd1"
        exact q _ dx
      | false =>
        repeat walk_at "rd1"
        exact q _ dy
/-- not; n: the calls that are allowed -/
def spNo (K : PySem.W.Frag) (n : Nat) : Sp := fun vs H Q _ => ∃ (v : V) (ns : List Str) (c : C) (G : Hp), vs = [v] ∧ Same G H ∧ OC ns c ∧ ns.length < n ∧ Dat G v c.enc ∧ ∀ G' H' r, Ex [] G H G' H' → Dat G' r c.no.enc → Q r H'
theorem ok_no (T : Tp K mg) : ∀ n : Nat, FnOk P w K mg base CX0 n T.a_no T.d_no ["condition"] (spNo K n)
  | 0 => fn_none fun vs H Q E h => by obtain ⟨_, _, _, _, _, _, _, h, _⟩ := h; omega
  | n + 1 => by
    have G_no := ok_no T n
    refine T.F_no.ok sc_no (fun vs H Q E h => ?_) (fun cdv A outer s H vs Q E hr h => ?_)
    · obtain ⟨_, _, _, _, rfl, _⟩ := h; rfl
    obtain ⟨v, ns, c, G, rfl, sm, hc, hl, d1, q⟩ := h
    have hu64 := hr.units
    refine ⟨_, (pss_cons (ps_if (pt_truthK (K := K) rfl (pe_callB (call_isiK' (K := K) rfl) (by rfl) T.z_isinstance (by decide +kernel) (pa_cons (pv 0) (pa_cons (pe_bltn (v := V.ty "bool") (u := Value.type "bool") (by rfl) T.z_bool (by decide +kernel) rfl) pa_nil))) (by intro _; rfl))
  (pss_one (ps_ret (pe_notTK (K := K) rfl (pv 0))))
  pss_nil)
  (pss_one (ps_ret (pe_tup (pa_cons (pe_ix (ix_seqK (K := K) rfl) (pv 0) pe_int (fun _ _ => rfl)) (pa_cons (pe_call G_no (hr.mono (by omega)) (by rfl) T.g_no T.F_no.kp T.b_no .nil pass0 (pa_cons (pe_ix (ix_seqK (K := K) rfl) (pv 0) pe_int (fun _ _ => rfl)) pa_nil)) (pa_cons (pe_call G_no (hr.mono (by omega)) (by rfl) T.g_no T.F_no.kp T.b_no .nil pass0 (pa_cons (pe_ix (ix_seqK (K := K) rfl) (pv 0) pe_int (fun _ _ => rfl)) pa_nil)) pa_nil))))))), ?_⟩
    rcases d1.c_inv with ⟨b, rfl, rfl⟩ | ⟨t, x, y, a, vx, vy, rfl, rfl, ea, dx, dy⟩
    · repeat walk_at "rd1"
      refine isi_of (c := "bool") true d1 sm (show kitB "bool" "bool" = some true by decide +kernel) ?_
      repeat walk_at "rd1"
      exact q G H _ (Ex.refl sm) (.bl (!b))
    · obtain ⟨pre, ys, rfl, hx, hy, ne⟩ := hc.split
      rw [List.length_append, List.length_cons] at hl
      have eH := sm _ _ ea
      repeat walk_at "rd1"
      refine isi_of (c := "bool") false d1 sm (show kitB "tuple" "bool" = some false by decide +kernel) ?_
      repeat walk_at "rd1"
      refine ⟨vx, ys, x, G, rfl, sm, hx, by omega, dx, fun G1 H1 r1 E1 k1 => ?_⟩
      have eH1 := E1.same _ _ eH
      repeat walk_at "rd1"
      refine ⟨vy, ys, y, G1, rfl, E1.gh, hy, by omega, dy.up E1.gg, fun G2 H2 r2 E2 k2 => ?_⟩
      repeat walk_at "rd1"
      exact ⟨line_le (by show 3 ≤ _; decide), fun p np => q _ _ _ ((E1.trans E2).dat np) (Dat.newT (.cons (.str t) (.cons (k1.up E2.gg) (.cons k2 .nil))) (E2.gh.free np))⟩
/-- both -/
def spBoth (K : PySem.W.Frag) (n : Nat) : Sp := fun vs H Q _ => ∃ (v1 v2 : V) (ns : List Str) (c d : C) (G : Hp), vs = [v1, v2] ∧ Same G H ∧ NS ns ∧ OC ns c ∧ OC ns d ∧ ns.length < n ∧ Dat G v1 c.enc ∧ Dat G v2 d.enc ∧
  ∀ G' H' r e, Ex [] G H G' H' → OC ns e → (∀ f, e.ev f = (c.ev f && d.ev f)) → Dat G' r e.enc → Q r H'
theorem ok_both (T : Tp K mg) : ∀ n : Nat, FnOk P w K mg base CX0 (n + 1) T.a_both T.d_both ["condition", "other"] (spBoth K n)
  | 0 => fn_none fun vs H Q E h => by obtain ⟨_, _, _, _, _, _, _, _, _, _, _, h, _⟩ := h; omega
  | n + 1 => by
    have G_both := ok_both T n
    have G_formed := ok_formed (P := P) (w := w) (base := base) T
    have G_side_of := ok_side_of (P := P) (w := w) (base := base) T
    refine T.F_both.ok sc_both (fun vs H Q E h => ?_) (fun cdv A outer s H vs Q E hr h => ?_)
    · obtain ⟨_, _, _, _, _, _, rfl, _⟩ := h; rfl
    obtain ⟨v1, v2, ns, c, d, G, rfl, sm, hn, hc, hd, hl, d1, d2, q⟩ := h
    have hu64 := hr.units
    refine ⟨_, (pss_cons (ps_if (PW.pt (pw_or (pt_cmpR op_isC (pv 0) pe_bl (nomark _)) (pw_or1 (pt_cmpR op_isC (pv 1) pe_bl (nomark _)))))
  (pss_one (ps_ret pe_bl))
  pss_nil)
  (pss_cons (ps_if (pt_cmpR op_isC (pv 0) pe_bl (nomark _))
  (pss_one (ps_ret (pv 1)))
  pss_nil)
  (pss_cons (ps_if (pt_cmpR op_isC (pv 1) pe_bl (nomark _))
  (pss_one (ps_ret (pv 0)))
  pss_nil)
  (pss_cons (ps_set (i := 2) sc_both.nd rfl (Or.inl rfl) (pe_callB (call_minS2 rfl) (by rfl) T.z_min (by decide +kernel) (pa_cons (pe_ix (ix_seqK (K := K) rfl) (pv 0) pe_int (fun _ _ => rfl)) (pa_cons (pe_ix (ix_seqK (K := K) rfl) (pv 1) pe_int (fun _ _ => rfl)) pa_nil))))
  (pss_cons (ps_set (i := 3) sc_both.nd rfl (Or.inl rfl) (pe_call G_both (hr.mono (by omega)) (by rfl) T.g_both T.F_both.kp T.b_both .nil pass0 (pa_cons (pe_call G_side_of (hr.mono (by omega)) (by rfl) T.g_side_of T.F_side_of.kp T.b_side_of .nil pass0 (pa_cons (pv 0) (pa_cons (pv 2) (pa_cons pe_bl pa_nil)))) (pa_cons (pe_call G_side_of (hr.mono (by omega)) (by rfl) T.g_side_of T.F_side_of.kp T.b_side_of .nil pass0 (pa_cons (pv 1) (pa_cons (pv 2) (pa_cons pe_bl pa_nil)))) pa_nil))))
  (pss_cons (ps_set (i := 4) sc_both.nd rfl (Or.inl rfl) (pe_call G_both (hr.mono (by omega)) (by rfl) T.g_both T.F_both.kp T.b_both .nil pass0 (pa_cons (pe_call G_side_of (hr.mono (by omega)) (by rfl) T.g_side_of T.F_side_of.kp T.b_side_of .nil pass0 (pa_cons (pv 0) (pa_cons (pv 2) (pa_cons pe_bl pa_nil)))) (pa_cons (pe_call G_side_of (hr.mono (by omega)) (by rfl) T.g_side_of T.F_side_of.kp T.b_side_of .nil pass0 (pa_cons (pv 1) (pa_cons (pv 2) (pa_cons pe_bl pa_nil)))) pa_nil))))
  (pss_one (ps_ret (pe_call G_formed (hr.mono (by omega)) (by rfl) T.g_formed T.F_formed.kp T.b_formed .nil pass0 (pa_cons (pv 2) (pa_cons (pv 3) (pa_cons (pv 4) pa_nil)))))))))))), ?_⟩
    rcases d1.c_inv with ⟨b, rfl, rfl⟩ | ⟨t, x, y, a, vx, vy, rfl, rfl, ea, dx, dy⟩
    · cases b with
      | false =>
        repeat walk_at "rd2"
        exact q G H _ (.b false) (Ex.refl sm) (.leaf _) (fun f => rfl) (.bl _)
      | true =>
        rcases d2.c_inv with ⟨b2, rfl, rfl⟩ | ⟨t2, x2, y2, a2, vx2, vy2, rfl, rfl, ea2, dx2, dy2⟩
        · cases b2 with
          | false =>
            repeat walk_at "rd2"
            exact q G H _ (.b false) (Ex.refl sm) (.leaf _) (fun f => rfl) (.bl _)
          | true =>
            repeat walk_at "rd2"
            exact q G H _ (.b true) (Ex.refl sm) (.leaf _) (fun f => rfl) (.bl _)
        · repeat walk_at "rd2"
          exact q G H _ _ (Ex.refl sm) hd (fun f => rfl) d2
    · rcases d2.c_inv with ⟨b2, rfl, rfl⟩ | ⟨t2, x2, y2, a2, vx2, vy2, rfl, rfl, ea2, dx2, dy2⟩
      · cases b2 with
        | false =>
          repeat walk_at "rd2"
          exact q G H _ (.b false) (Ex.refl sm) (.leaf _) (fun f => by simp [C.ev]) (.bl _)
        | true =>
          repeat walk_at "rd2"
          exact q G H _ _ (Ex.refl sm) hc (fun f => by simp [C.ev]) d1
      · have eH := sm _ _ ea
        have eH2 := sm _ _ ea2
        repeat walk_at "rd2"
        refine .inr ⟨t, t2, rfl, ?_⟩
        generalize em : (if t2.cps.toList < t.cps.toList then t2 else t) = m
        obtain ⟨pre, ys, rfl, oc, od⟩ := OC.mins hn hc hd m em.symm
        have ms : PyData.strOk m = true := (hn.ok m (by simp)).1
        have nys : NS ys := by
          have z : NS ((pre ++ [m]) ++ ys) := by rw [List.append_assoc]; exact hn
          exact z.suf
        rw [List.length_append, List.length_cons] at hl
        repeat walk_at "rd2"
        refine ⟨_, m, true, _, _, G, rfl, sm, hn, hc, ms, d1, fun r1 k1 => ?_⟩
        repeat walk_at "rd2"
        refine ⟨_, m, true, _, _, G, rfl, sm, hn, hd, ms, d2, fun r2 k2 => ?_⟩
        repeat walk_at "rd2"
        refine ⟨r1, r2, ys, _, _, G, rfl, sm, nys, oc true, od true, by omega, k1, k2, fun G1 H1 r3 e1 E1 o1 v1 k3 => ?_⟩
        repeat walk_at "rd2"
        refine ⟨_, m, false, _, _, G1, rfl, E1.gh, hn, hc, ms, d1.up E1.gg, fun r4 k4 => ?_⟩
        repeat walk_at "rd2"
        refine ⟨_, m, false, _, _, G1, rfl, E1.gh, hn, hd, ms, d2.up E1.gg, fun r5 k5 => ?_⟩
        repeat walk_at "rd2"
        refine ⟨r4, r5, ys, _, _, G1, rfl, E1.gh, nys, oc false, od false, by omega, k4, k5, fun G2 H2 r6 e2 E2 o2 v2 k6 => ?_⟩
        repeat walk_at "rd2"
        refine ⟨m, r3, r6, ys, e1, e2, G2, rfl, E2.gh, nys, o1, o2, k3.up E2.gg, k6, fun G3 H3 r E3 k => ?_⟩
        refine q G3 H3 r (C.formed m e1 e2) ((E1.trans E2).trans E3) ((OC.formed o1 o2).app pre) (fun f => ?_) k
        rw [C.ev_formed, v1, v2, C.ev_side f m (.nd t x y), C.ev_side f m (.nd t2 x2 y2)]
        split <;> rfl
theorem ok_either (T : Tp K mg) (n : Nat) : FnOk P w K mg base CX0 (n + 2) T.a_either T.d_either ["condition", "other"] (fun vs H Q _ => ∃ (v1 v2 : V) (ns : List Str) (c d : C) (G : Hp), vs = [v1, v2] ∧ Same G H ∧ NS ns ∧ OC ns c ∧ OC ns d ∧ ns.length < n ∧ Dat G v1 c.enc ∧ Dat G v2 d.enc ∧
  ∀ G' H' r e, Ex [] G H G' H' → OC ns e → (∀ f, e.ev f = (c.ev f || d.ev f)) → Dat G' r e.enc → Q r H') := by
  have G_no := ok_no (P := P) (w := w) (base := base) T n
  have G_both := ok_both (P := P) (w := w) (base := base) T n
  refine T.F_either.ok sc_either (fun vs H Q E h => ?_) (fun cdv A outer s H vs Q E hr h => ?_)
  · obtain ⟨_, _, _, _, _, _, rfl, _⟩ := h; rfl
  obtain ⟨v1, v2, ns, c, d, G, rfl, sm, hn, hc, hd, hl, d1, d2, q⟩ := h
  refine ⟨_, (pss_one (ps_ret (pe_call G_no (hr.mono (by omega)) (by rfl) T.g_no T.F_no.kp T.b_no .nil pass0 (pa_cons (pe_call G_both (hr.mono (by omega)) (by rfl) T.g_both T.F_both.kp T.b_both .nil pass0 (pa_cons (pe_call G_no (hr.mono (by omega)) (by rfl) T.g_no T.F_no.kp T.b_no .nil pass0 (pa_cons (pv 0) pa_nil)) (pa_cons (pe_call G_no (hr.mono (by omega)) (by rfl) T.g_no T.F_no.kp T.b_no .nil pass0 (pa_cons (pv 1) pa_nil)) pa_nil))) pa_nil)))), ?_⟩
  repeat walk_at "rd2"
  refine ⟨v1, ns, c, G, rfl, sm, hc, hl, d1, fun G1 H1 r1 E1 k1 => ?_⟩
  repeat walk_at "rd2"
  refine ⟨v2, ns, d, G1, rfl, E1.gh, hd, hl, d2.up E1.gg, fun G2 H2 r2 E2 k2 => ?_⟩
  repeat walk_at "rd2"
  refine ⟨r1, r2, ns, _, _, G2, rfl, E2.gh, hn, hc.no, hd.no, hl, k1.up E2.gg, k2, fun G3 H3 r3 e3 E3 o3 v3 k3 => ?_⟩
  repeat walk_at "rd2"
  refine ⟨r3, ns, e3, G3, rfl, E3.gh, o3, hl, k3, fun G4 H4 r4 E4 k4 => ?_⟩
  refine q G4 H4 r4 e3.no (((E1.trans E2).trans E3).trans E4) o3.no (fun f => ?_) k4
  rw [C.ev_no, v3, C.ev_no, C.ev_no, Bool.not_and, Bool.not_not, Bool.not_not]
def spTwo (K : PySem.W.Frag) (n : Nat) (g : Bool → Bool → Bool) : Sp := fun vs H Q _ => ∃ (v1 v2 : V) (ns : List Str) (c d : C) (G : Hp), vs = [v1, v2] ∧ Same G H ∧ NS ns ∧ OC ns c ∧ OC ns d ∧ ns.length < n ∧ Dat G v1 c.enc ∧ Dat G v2 d.enc ∧
  ∀ G' H' r e, Ex [] G H G' H' → OC ns e → (∀ f, e.ev f = g (c.ev f) (d.ev f)) → Dat G' r e.enc → Q r H'
theorem ok_but_not (T : Tp K mg) (n : Nat) : FnOk P w K mg base CX0 (n + 2) T.a_but_not T.d_but_not ["condition", "other"] (spTwo K n fun a b => a && !b) := by
  have G_no := ok_no (P := P) (w := w) (base := base) T n
  have G_both := ok_both (P := P) (w := w) (base := base) T n
  refine T.F_but_not.ok sc_but_not (fun vs H Q E h => ?_) (fun cdv A outer s H vs Q E hr h => ?_)
  · obtain ⟨_, _, _, _, _, _, rfl, _⟩ := h; rfl
  obtain ⟨v1, v2, ns, c, d, G, rfl, sm, hn, hc, hd, hl, d1, d2, q⟩ := h
  refine ⟨_, (pss_one (ps_ret (pe_call G_both (hr.mono (by omega)) (by rfl) T.g_both T.F_both.kp T.b_both .nil pass0 (pa_cons (pv 0) (pa_cons (pe_call G_no (hr.mono (by omega)) (by rfl) T.g_no T.F_no.kp T.b_no .nil pass0 (pa_cons (pv 1) pa_nil)) pa_nil))))), ?_⟩
  repeat walk_at "rd2"
  refine ⟨v2, ns, d, G, rfl, sm, hd, hl, d2, fun G2 H2 r2 E2 k2 => ?_⟩
  repeat walk_at "rd2"
  refine ⟨v1, r2, ns, _, _, G2, rfl, E2.gh, hn, hc, hd.no, hl, d1.up E2.gg, k2, fun G3 H3 r3 e3 E3 o3 v3 k3 => ?_⟩
  exact q G3 H3 r3 e3 (E2.trans E3) o3 (fun f => by rw [v3, C.ev_no]) k3
/-- one condition where a switch is on, else the other -/
theorem ok_switched (T : Tp K mg) (n : Nat) : FnOk P w K mg base CX0 (n + 3) T.a_switched T.d_switched ["switch", "on", "off"] (fun vs H Q _ => ∃ (z : Str) (v1 v2 : V) (ns : List Str) (c d : C) (G : Hp), vs = [.str z, v1, v2] ∧ Same G H ∧ NS ns ∧ OC ns c ∧ OC ns d ∧ z ∈ ns ∧ ns.length < n ∧ Dat G v1 c.enc ∧ Dat G v2 d.enc ∧
  ∀ G' H' r e, Ex [] G H G' H' → OC ns e → (∀ f, e.ev f = if f z then c.ev f else d.ev f) → Dat G' r e.enc → Q r H') := by
  have G_no := ok_no (P := P) (w := w) (base := base) T n
  have G_both := ok_both (P := P) (w := w) (base := base) T n
  have G_either := ok_either (P := P) (w := w) (base := base) T n
  have G_switch_condition := ok_switch_condition (P := P) (w := w) (base := base) T
  refine T.F_switched.ok sc_switched (fun vs H Q E h => ?_) (fun cdv A outer s H vs Q E hr h => ?_)
  · obtain ⟨_, _, _, _, _, _, _, rfl, _⟩ := h; rfl
  obtain ⟨z, v1, v2, ns, c, d, G, rfl, sm, hn, hc, hd, hz, hl, d1, d2, q⟩ := h
  have oz : OC ns (C.nd z (.b true) (.b false)) := by
    obtain ⟨pre, ys, rfl⟩ := List.append_of_mem hz
    exact (OC.node (.leaf _) (.leaf _) (fun e => by cases e)).app pre
  refine ⟨_, (pss_cons (ps_set (i := 3) sc_switched.nd rfl (Or.inl rfl) (pe_call G_switch_condition (hr.mono (by omega)) (by rfl) T.g_switch_condition T.F_switch_condition.kp T.b_switch_condition .nil pass0 (pa_cons (pv 0) pa_nil)))
  (pss_one (ps_ret (pe_call G_either (hr.mono (by omega)) (by rfl) T.g_either T.F_either.kp T.b_either .nil pass0 (pa_cons (pe_call G_both (hr.mono (by omega)) (by rfl) T.g_both T.F_both.kp T.b_both .nil pass0 (pa_cons (pv 3) (pa_cons (pv 1) pa_nil))) (pa_cons (pe_call G_both (hr.mono (by omega)) (by rfl) T.g_both T.F_both.kp T.b_both .nil pass0 (pa_cons (pe_call G_no (hr.mono (by omega)) (by rfl) T.g_no T.F_no.kp T.b_no .nil pass0 (pa_cons (pv 3) pa_nil)) (pa_cons (pv 2) pa_nil))) pa_nil)))))), ?_⟩
  repeat walk_at "rd2"
  refine ⟨z, G, rfl, sm, fun G0 H0 r0 E0 k0 => ?_⟩
  repeat walk_at "rd2"
  refine ⟨r0, v1, ns, _, _, G0, rfl, E0.gh, hn, oz, hc, hl, k0, d1.up E0.gg, fun G1 H1 r1 e1 E1 o1 w1 k1 => ?_⟩
  repeat walk_at "rd2"
  refine ⟨r0, ns, _, G1, rfl, E1.gh, oz, hl, k0.up E1.gg, fun G2 H2 r2 E2 k2 => ?_⟩
  repeat walk_at "rd2"
  refine ⟨r2, v2, ns, _, _, G2, rfl, E2.gh, hn, oz.no, hd, hl, k2, d2.up ((E0.trans E1).trans E2).gg, fun G3 H3 r3 e3 E3 o3 w3 k3 => ?_⟩
  repeat walk_at "rd2"
  refine ⟨r1, r3, ns, _, _, G3, rfl, E3.gh, hn, o1, o3, hl, k1.up (E2.trans E3).gg, k3, fun G4 H4 r4 e4 E4 o4 w4 k4 => ?_⟩
  refine q G4 H4 r4 e4 ((((E0.trans E1).trans E2).trans E3).trans E4) o4 (fun f => ?_) k4
  rw [w4, w1, w3, C.ev_no]
  simp only [C.ev]
  cases f z <;> simp
/-- the condition implies the other -/
theorem ok_implies (T : Tp K mg) (n : Nat) : FnOk P w K mg base CX0 (n + 3) T.a_implies T.d_implies ["condition", "other"] (fun vs H Q _ => ∃ (v1 v2 : V) (ns : List Str) (c d : C) (G : Hp), vs = [v1, v2] ∧ Same G H ∧ NS ns ∧ OC ns c ∧ OC ns d ∧ ns.length < n ∧ Dat G v1 c.enc ∧ Dat G v2 d.enc ∧
  ∀ G' H' b, Ex [] G H G' H' → (b = true ↔ ∀ f, c.ev f = true → d.ev f = true) → Q (.bl b) H') := by
  have G_but_not := ok_but_not (P := P) (w := w) (base := base) T n
  refine T.F_implies.ok sc_implies (fun vs H Q E h => ?_) (fun cdv A outer s H vs Q E hr h => ?_)
  · obtain ⟨_, _, _, _, _, _, rfl, _⟩ := h; rfl
  obtain ⟨v1, v2, ns, c, d, G, rfl, sm, hn, hc, hd, hl, d1, d2, q⟩ := h
  refine ⟨_, (pss_one (ps_ret (pe_cmpR op_isC (pe_call G_but_not (hr.mono (by omega)) (by rfl) T.g_but_not T.F_but_not.kp T.b_but_not .nil pass0 (pa_cons (pv 0) (pa_cons (pv 1) pa_nil))) pe_bl (nomark _)))), ?_⟩
  repeat walk_at "rd2"
  refine ⟨v1, v2, ns, _, _, G, rfl, sm, hn, hc, hd, hl, d1, d2, fun G3 H3 r3 e3 E3 o3 v3 k3 => ?_⟩
  repeat walk_at "rd2"
  refine q G3 H3 _ E3 ?_
  have key : (decide (r3 = V.bl false) = true) ↔ e3 = .b false := by
    rcases k3.c_inv with ⟨b, rfl, rfl⟩ | ⟨_, _, _, _, _, _, rfl, rfl, _⟩
    · cases b <;> simp
    · simp
  rw [key]
  constructor
  · intro e f hf
    have z := v3 f
    rw [e] at z
    have z' : false = (c.ev f && !d.ev f) := z
    rw [hf] at z'
    cases e : d.ev f with
    | true => rfl
    | false => rw [e] at z'; cases z'
  · intro h
    refine OC.uniq hn.nd o3 (.leaf _) fun f => ?_
    rw [v3]
    show (c.ev f && !d.ev f) = false
    cases e : c.ev f with
    | false => rfl
    | true => rw [h f e]; rfl
end
section
variable {P : Program} {w : World} {K : PySem.W.Frag} {mg : Str → Option Value} {base : Heap}
/-- a switch is known -/
def spFixed (K : PySem.W.Frag) (n : Nat) : Sp := fun vs H Q _ => ∃ (v : V) (z : Str) (o : Bool) (ns : List Str) (c : C) (G : Hp), vs = [v, .str z, .bl o] ∧ Same G H ∧ NS ns ∧ OC ns c ∧ ns.length < n ∧ PyData.strOk z = true ∧ Dat G v c.enc ∧
  ∀ G' H' r e, Ex [] G H G' H' → OC ns e → (∀ f, e.ev f = c.ev (fset f z o)) → Dat G' r e.enc → Q r H'
theorem ok_fixed (T : Tp K mg) : ∀ n : Nat, FnOk P w K mg base CX0 (n + 1) T.a_fixed T.d_fixed ["condition", "switch", "on"] (spFixed K n)
  | 0 => fn_none fun vs H Q E h => by obtain ⟨_, _, _, _, _, _, _, _, _, _, h, _⟩ := h; omega
  | n + 1 => by
    have G_fixed := ok_fixed T n
    have G_formed := ok_formed (P := P) (w := w) (base := base) T
    refine T.F_fixed.ok sc_fixed (fun vs H Q E h => ?_) (fun cdv A outer s H vs Q E hr h => ?_)
    · obtain ⟨_, _, _, _, _, _, rfl, _⟩ := h; rfl
    obtain ⟨v, z, o, ns, c, G, rfl, sm, hn, hc, hl, hz, d1, q⟩ := h
    have hu64 := hr.units
    refine ⟨_, (pss_cons (ps_if (PW.pt (pw_or (pt_truthK (K := K) rfl (pe_callB (call_isiK' (K := K) rfl) (by rfl) T.z_isinstance (by decide +kernel) (pa_cons (pv 0) (pa_cons (pe_bltn (v := V.ty "bool") (u := Value.type "bool") (by rfl) T.z_bool (by decide +kernel) rfl) pa_nil))) (by intro _; rfl)) (pw_or1 (pt_cmpR op_gtA (pe_ix (ix_seqK (K := K) rfl) (pv 0) pe_int (fun _ _ => rfl)) (pv 1) (nomark _)))))
  (pss_one (ps_ret (pv 0)))
  pss_nil)
  (pss_cons (ps_if (pt_cmpR (op_eqDK (K := K) rfl hu64) (pe_ix (ix_seqK (K := K) rfl) (pv 0) pe_int (fun _ _ => rfl)) (pv 1) (nomark _))
  (pss_one (ps_ret (pe_ifExp (pt_truthK (K := K) rfl (pv 2) (by intro _; rfl)) (pe_ix (ix_seqK (K := K) rfl) (pv 0) pe_int (fun _ _ => rfl)) (pe_ix (ix_seqK (K := K) rfl) (pv 0) pe_int (fun _ _ => rfl)))))
  pss_nil)
  (pss_one (ps_ret (pe_call G_formed (hr.mono (by omega)) (by rfl) T.g_formed T.F_formed.kp T.b_formed .nil pass0 (pa_cons (pe_ix (ix_seqK (K := K) rfl) (pv 0) pe_int (fun _ _ => rfl)) (pa_cons (pe_call G_fixed (hr.mono (by omega)) (by rfl) T.g_fixed T.F_fixed.kp T.b_fixed .nil pass0 (pa_cons (pe_ix (ix_seqK (K := K) rfl) (pv 0) pe_int (fun _ _ => rfl)) (pa_cons (pv 1) (pa_cons (pv 2) pa_nil)))) (pa_cons (pe_call G_fixed (hr.mono (by omega)) (by rfl) T.g_fixed T.F_fixed.kp T.b_fixed .nil pass0 (pa_cons (pe_ix (ix_seqK (K := K) rfl) (pv 0) pe_int (fun _ _ => rfl)) (pa_cons (pv 1) (pa_cons (pv 2) pa_nil)))) pa_nil)))))))), ?_⟩
    rcases d1.c_inv with ⟨b, rfl, rfl⟩ | ⟨t, x, y, a, vx, vy, rfl, rfl, ea, dx, dy⟩
    · repeat walk_at "rd2"
      refine isi_of (c := "bool") true d1 sm (show kitB "bool" "bool" = some true by decide +kernel) ?_
      repeat walk_at "rd2"
      exact q G H _ _ (Ex.refl sm) hc (fun f => rfl) d1
    · have ht : PyData.strOk t = true := (hn.ok t (hc.vars t List.mem_cons_self)).1
      have eH := sm _ _ ea
      obtain ⟨pre, ys, rfl, ox, oy, ne⟩ := hc.split
      have nys : NS (t :: ys) := hn.suf
      have srt := List.pairwise_cons.mp nys.srt
      repeat walk_at "rd2"
      refine isi_of (c := "bool") false d1 sm (show kitB "tuple" "bool" = some false by decide +kernel) ?_
      repeat walk_at "rd2"
      refine .inr ⟨_, _, rfl, rfl, ?_⟩
      repeat walk_at "rd2"
      refine ite2 (fun e => ?_) (fun e => ?_)
      · have e : slt z t := of_decide_eq_true e
        repeat walk_at "rd2"
        refine q G H _ _ (Ex.refl sm) hc (fun f => ?_) d1
        have h1 : t ≠ z := (slt_ne e).symm
        have h2 : z ∉ ys := fun m => slt_asymm e (srt.1 z m)
        show (if f t then x.ev f else y.ev f) = if fset f z o t then x.ev (fset f z o) else y.ev (fset f z o)
        rw [ox.ev_fset h2, oy.ev_fset h2]
        unfold fset
        rw [if_neg h1]
      · have e : ¬ slt z t := fun k => e (decide_eq_true k)
        repeat walk_at "rd2"
        refine eqD_str ht hz ?_
        repeat walk_at "rd2"
        refine ite2 (fun e2 => ?_) (fun e2 => ?_)
        · have e2 : t = z := by simpa using e2
          subst e2
          have h2 : t ∉ ys := fun m => slt_irrefl t (srt.1 t m)
          cases o with
          | true =>
            repeat walk_at "rd2"
            refine q G H _ _ (Ex.refl sm) ((OC.skip ox).app pre) (fun f => ?_) dx
            show _ = if fset f t true t then x.ev (fset f t true) else y.ev (fset f t true)
            rw [ox.ev_fset h2]
            simp [fset]
          | false =>
            repeat walk_at "rd2"
            refine q G H _ _ (Ex.refl sm) ((OC.skip oy).app pre) (fun f => ?_) dy
            show _ = if fset f t false t then x.ev (fset f t false) else y.ev (fset f t false)
            rw [oy.ev_fset h2]
            simp [fset]
        · have e2 : ¬ t = z := by simpa using e2
          rw [List.length_append, List.length_cons] at hl
          have nys2 : NS ys := by
            have k : NS ([t] ++ ys) := nys
            exact k.suf
          repeat walk_at "rd2"
          refine ⟨vx, z, o, ys, x, G, rfl, sm, nys2, ox, by omega, hz, dx, fun G1 H1 r1 e1 E1 o1 w1 k1 => ?_⟩
          have eH1 := E1.same _ _ eH
          repeat walk_at "rd2"
          refine ⟨vy, z, o, ys, y, G1, rfl, E1.gh, nys2, oy, by omega, hz, dy.up E1.gg, fun G2 H2 r2 e2' E2 o2 w2 k2 => ?_⟩
          repeat walk_at "rd2"
          refine ⟨t, r1, r2, ys, e1, e2', G2, rfl, E2.gh, nys2, o1, o2, k1.up E2.gg, k2, fun G3 H3 r E3 k => ?_⟩
          refine q G3 H3 r (C.formed t e1 e2') ((E1.trans E2).trans E3) ((OC.formed o1 o2).app pre) (fun f => ?_) k
          rw [C.ev_formed, w1, w2]
          show _ = if fset f z o t then x.ev (fset f z o) else y.ev (fset f z o)
          rw [show fset f z o t = f t by unfold fset; rw [if_neg e2]]
/-- a setting as a list or a tuple -/
def SetAt (G : Hp) (v : V) (ss : List Str) : Prop := ∃ a, v = .ref a ∧ (G a = some (.lst (ss.map V.str)) ∨ G a = some (.tup (ss.map V.str)))
def spHolds (K : PySem.W.Frag) : Sp := fun vs H Q _ => ∃ (v v2 : V) (ss : List Str) (c : C) (G : Hp), vs = [v, v2] ∧ Same G H ∧ SetAt G v2 ss ∧ Dat G v c.enc ∧ Q (.bl (c.ev fun s => decide (s ∈ ss))) H
theorem ok_holds (T : Tp K mg) : FnOk P w K mg base CX0 1 T.a_holds T.d_holds ["condition", "setting"] (spHolds K) := by
  refine T.F_holds.ok sc_holds (fun vs H Q E h => ?_) (fun cdv A outer s H vs Q E hr h => ?_)
  · obtain ⟨_, _, _, _, _, rfl, _⟩ := h; rfl
  obtain ⟨v, v2, ss, c, G, rfl, sm, ⟨a, rfl, ea⟩, d1, q⟩ := h
  have hu64 := hr.units
  refine ⟨_, (pss_cons (ps_while PassesOwn.never (pt_not (pt_truthK (K := K) rfl (pe_callB (call_isiK' (K := K) rfl) (by rfl) T.z_isinstance (by decide +kernel) (pa_cons (pv 0) (pa_cons (pe_bltn (v := V.ty "bool") (u := Value.type "bool") (by rfl) T.z_bool (by decide +kernel) rfl) pa_nil))) (by intro _; rfl)))
  (pss_one (ps_set (i := 0) sc_holds.nd rfl (Or.inl rfl) (pe_ifExp (pt_cmpR (op_inAK (K := K) rfl) (pe_ix (ix_seqK (K := K) rfl) (pv 0) pe_int (fun _ _ => rfl)) (pv 1) (by rfl)) (pe_ix (ix_seqK (K := K) rfl) (pv 0) pe_int (fun _ _ => rfl)) (pe_ix (ix_seqK (K := K) rfl) (pv 0) pe_int (fun _ _ => rfl))))))
  (pss_one (ps_ret (pv 0)))), ?_⟩
  refine ⟨fun m σ H' => H' = H ∧ ∃ (u : V) (d : C), σ = [some u, some (.ref a)] ∧ Dat G u d.enc ∧ m = d.size ∧ (d.ev fun s => decide (s ∈ ss)) = c.ev fun s => decide (s ∈ ss), ⟨_, rfl, v, c, rfl, d1, rfl, rfl⟩, fun m σ H' hw => ?_⟩
  obtain ⟨rfl, u, d, rfl, du, rfl, hv⟩ := hw
  rcases du.c_inv with ⟨b, rfl, rfl⟩ | ⟨t, x, y, a2, vx, vy, rfl, rfl, ea2, dx, dy⟩
  · repeat walk_at "rd2"
    refine isi_of (c := "bool") true du sm (show kitB "bool" "bool" = some true by decide +kernel) ?_
    repeat walk_at "rd2"
    rw [← hv] at q
    exact q
  · have eH := sm _ _ ea2
    repeat walk_at "rd2"
    refine isi_of (c := "bool") false du sm (show kitB "tuple" "bool" = some false by decide +kernel) ?_
    repeat walk_at "rd2"
    refine ⟨fun σ' H'' => H'' = H' ∧ ∃ (u : V) (d : C), σ' = [some u, some (.ref a)] ∧ Dat G u d.enc ∧ d.size < (C.nd t x y).size ∧ (d.ev fun s => decide (s ∈ ss)) = c.ev fun s => decide (s ∈ ss), fun σ' H'' hN => ?_, ?_⟩
    · obtain ⟨rfl, u, d, rfl, k1, k2, k3⟩ := hN
      exact ⟨d.size, k2, rfl, u, d, rfl, k1, rfl, k3⟩
    repeat walk_at "rd2"
    refine ⟨a, ss.map V.str, rfl, ?_, rfl, flat_strs ss, ?_⟩
    · rcases ea with ea | ea
      · exact .inl (SqL.of (sm _ _ ea))
      · exact .inr (SqT.of (sm _ _ ea))
    rw [inV_strs]
    repeat walk_at "rd2"
    refine ite2 (fun e => ?_) (fun e => ?_)
    · have e : t ∈ ss := by simpa using e
      repeat walk_at "rd2"
      refine ⟨vx, x, rfl, dx, by show x.size < x.size + y.size + 1; omega, ?_⟩
      rw [← hv]
      show _ = if decide (t ∈ ss) = true then _ else _
      rw [if_pos (decide_eq_true e)]
    · have e : ¬ t ∈ ss := by simpa using e
      repeat walk_at "rd2"
      refine ⟨vy, y, rfl, dy, by show y.size < x.size + y.size + 1; omega, ?_⟩
      rw [← hv]
      show _ = if decide (t ∈ ss) = true then _ else _
      rw [if_neg (by simpa using e)]
end
section
variable {P : Program} {w : World} {K : PySem.W.Frag} {mg : Str → Option Value} {base : Heap}
def szs : List C → Nat
  | [] => 0
  | c :: r => c.size + szs r
theorem szs_app : ∀ a b : List C, szs (a ++ b) = szs a + szs b
  | [], b => by simp [szs]
  | c :: r, b => by simp [szs, szs_app r b]; omega
theorem len_szs : ∀ cs : List C, cs.length ≤ szs cs
  | [] => Nat.zero_le _
  | c :: r => by
    have a := len_szs r
    have b := c.size_pos
    simp only [szs, List.length_cons]
    omega
/-- the switches of a condition -/
def spSwitches (K : PySem.W.Frag) : Sp := fun vs H Q _ => ∃ (v : V) (ns : List Str) (c : C) (G : Hp), vs = [v] ∧ Same G H ∧ NS ns ∧ OC ns c ∧ Dat G v c.enc ∧
  ∀ G' H' r (ss : List Str), Ex [] G H G' H' → ss.Pairwise slt → (∀ s, s ∈ ss ↔ s ∈ c.vars) → Dat G' r (.tuple (ss.map PyData.str)) → Q r H'
theorem ok_switches_of (T : Tp K mg) : FnOk P w K mg base CX0 1 T.a_switches_of T.d_switches_of ["condition"] (spSwitches K) := by
  refine T.F_switches_of.ok sc_switches_of (fun vs H Q E h => ?_) (fun cdv A outer s H vs Q E hr h => ?_)
  · obtain ⟨_, _, _, _, rfl, _⟩ := h; rfl
  obtain ⟨v, ns, c, G, rfl, sm, hn, hc, d1, q⟩ := h
  have hu64 := hr.units
  have hu1 := hu_of hr
  refine ⟨_, (pss_cons (ps_set (i := 1) sc_switches_of.nd rfl (Or.inl rfl) pe_dnewK)
  (pss_cons (ps_set (i := 2) sc_switches_of.nd rfl (Or.inl rfl) (pe_lst (pa_cons (pv 0) pa_nil)))
  (pss_cons (ps_while PassesOwn.never (pt_truthK (K := K) rfl (pv 2) (by intro _; rfl))
  (pss_cons (ps_set (i := 3) sc_switches_of.nd rfl (Or.inl rfl) (pe_bm0K (K := K) rfl PySem.F.plainAttrs_list PySem.F.slot_list_pop PySem.F.type_list_pop mt_pop (pv 2)))
  (pss_one (ps_if (pt_not (pt_truthK (K := K) rfl (pe_callB (call_isiK' (K := K) rfl) (by rfl) T.z_isinstance (by decide +kernel) (pa_cons (pv 3) (pa_cons (pe_bltn (v := V.ty "bool") (u := Value.type "bool") (by rfl) T.z_bool (by decide +kernel) rfl) pa_nil))) (by intro _; rfl)))
  (pss_cons (ps_dput hu1 (pv 1) (pe_ix (ix_seqK (K := K) rfl) (pv 3) pe_int (fun _ _ => rfl)) pe_bl rfl)
  (pss_cons (ps_expr (pe_bmK (K := K) rfl PySem.F.plainAttrs_list PySem.F.slot_list_append PySem.F.type_list_append mt_append (pv 2) (pa_cons (pe_ix (ix_seqK (K := K) rfl) (pv 3) pe_int (fun _ _ => rfl)) pa_nil)))
  (pss_one (ps_expr (pe_bmK (K := K) rfl PySem.F.plainAttrs_list PySem.F.slot_list_append PySem.F.type_list_append mt_append (pv 2) (pa_cons (pe_ix (ix_seqK (K := K) rfl) (pv 3) pe_int (fun _ _ => rfl)) pa_nil))))))
  pss_nil))))
  (pss_one (ps_ret (pe_callTy (call_tuple_ofK (K := K) rfl) (by rfl) T.z_tuple (by decide +kernel) (pa_cons (pe_callB (cr_sortedSK (K := K) rfl) (by rfl) T.z_sorted (by decide +kernel) (pa_cons (pe_callTy (call_listAK (K := K) rfl rfl) (by rfl) T.z_list (by decide +kernel) (pa_cons (pv 1) pa_nil)) pa_nil)) pa_nil))))))), ?_⟩
  repeat walk_at "rd2"
  intro d nd
  repeat walk_at "rd2"
  refine ⟨line_le (by show 1 ≤ _; decide), fun p np => ?_⟩
  have gd : G d = none := sm.free nd
  have npd : p ≠ d := fun z => by rw [z, upd_same] at np; cases np
  have np0 : H p = none := by rw [upd_ne npd] at np; exact np
  have gp : G p = none := sm.free np0
  have E0 : Ex [] G H G (upd (upd H d (.dK [])) p (.lst [v])) := ((Ex.refl sm).new nd).new np
  refine ⟨fun m σ H' => ∃ (ks : List Str) (kvs : List (Key × V)) (vs : List V) (cs : List C) (pt : Option V), σ = [some v, some (.ref d), some (.ref p), pt] ∧ Ex [] G H G H' ∧ H' d = some (.dK kvs) ∧ H' p = some (.lst vs) ∧
      DatA G vs (cs.map C.enc) ∧ kvs.map (·.1) = ks.map Sum.inr ∧ ks.Nodup ∧ (∀ s, (s ∈ ks ∨ ∃ x ∈ cs, s ∈ x.vars) ↔ s ∈ c.vars) ∧ (∀ x ∈ cs, ∀ s ∈ x.vars, PyData.strOk s = true) ∧ m = szs cs ∧ cs.length ≤ szs cs ∧ szs cs ≤ c.size,
    ⟨_, [], [], [v], [c], none, rfl, E0, ?_, ?_, .cons d1 .nil, rfl, .nil, fun s => by simp, fun x hx s hs => ?_, rfl, by have := c.size_pos; simp [szs]; omega, by simp [szs]⟩, fun m σ H' hw => ?_⟩
  · rw [upd_ne npd.symm, upd_same]
  · rw [upd_same]
  · have e : x = c := by simpa using hx
    rw [e] at hs
    exact (hn.ok s (hc.vars s hs)).1
  obtain ⟨ks, kvs, vs, cs, pt, rfl, E1, hd, hp, da, hk, nk, hv, so, rfl, hl, hsz⟩ := hw
  have szc := hc.size_few hn
  repeat walk_at "rd2"
  rcases List.eq_nil_or_concat cs with rfl | ⟨cs', x, ecs⟩
  · cases da
    repeat walk_at "rd2"
    have kl : ks.length ≤ ns.length := nodup_len nk fun s hs => hc.vars s ((hv s).mp (.inl hs))
    have few := hn.few
    refine .inr ⟨d, kvs, rfl, .inl hd, fun l nl => ?_⟩
    have e1 : (kvs.map fun kv => kV kv.1) = ks.map V.str := by
      rw [show (kvs.map fun kv => kV kv.1) = (kvs.map (·.1)).map kV by rw [List.map_map]; rfl, hk, List.map_map]
      rfl
    repeat walk_at "rd2"
    refine ⟨l, ks, by rfl, by rw [e1]; exact SqL.of upd_same, by omega, fun ys p2 pm ss n2 => ?_⟩
    repeat walk_at "rd2"
    have hys : ys.Pairwise slt := sorted_strict ss pm nk
    refine ⟨p2, _, rfl, .inl ⟨SqL.of upd_same, fun r nr => ?_⟩⟩
    refine q _ _ _ ys (((E1.new nl).new n2).dat nr) hys (fun s => ?_) (Dat.newT (DatA.strs ys) ((((E1.new nl).new n2).gh).free nr))
    rw [pm.mem_iff, ← hv]
    simp
  · rw [List.concat_eq_append] at ecs
    subst ecs
    rw [List.map_append] at da
    obtain ⟨vs', u, rfl, da', du⟩ := da.last
    have dl := da'.len
    rw [List.length_map] at dl
    rw [szs_app] at hl hsz
    rw [List.length_append] at hl
    simp only [szs, List.length_singleton] at hl hsz
    have xp := x.size_pos
    have lv : (vs' ++ [u]).isEmpty = false := by simp
    rw [lv]
    repeat walk_at "rd2"
    refine ⟨fun σ' H'' => ∃ (ks : List Str) (kvs : List (Key × V)) (vs : List V) (cs : List C) (pt : Option V), σ' = [some v, some (.ref d), some (.ref p), pt] ∧ Ex [] G H G H'' ∧ H'' d = some (.dK kvs) ∧ H'' p = some (.lst vs) ∧
      DatA G vs (cs.map C.enc) ∧ kvs.map (·.1) = ks.map Sum.inr ∧ ks.Nodup ∧ (∀ s, (s ∈ ks ∨ ∃ x ∈ cs, s ∈ x.vars) ↔ s ∈ c.vars) ∧ (∀ x ∈ cs, ∀ s ∈ x.vars, PyData.strOk s = true) ∧ cs.length ≤ szs cs ∧ szs cs ≤ c.size ∧ szs cs < szs (cs' ++ [x]), fun σ' H'' hN => ?_, ?_⟩
    · obtain ⟨ks, kvs, vs, cs, pt, e0, e1, e2, e3, e4, e5, e6, e7, e8, e9, e10, e11⟩ := hN
      exact ⟨szs cs, e11, ks, kvs, vs, cs, pt, e0, e1, e2, e3, e4, e5, e6, e7, e8, rfl, e9, e10⟩
    repeat walk_at "rd2"
    refine ⟨p, vs' ++ [u], u, rfl, rfl, hp, by simp, ?_⟩
    rw [List.dropLast_concat]
    have E2 : Ex [] G H G (upd H' p (.lst vs')) := E1.wr gp (.inr np0)
    have hd2 : (upd H' p (.lst vs')) d = some (.dK kvs) := by rw [upd_ne npd.symm]; exact hd
    have hlt : szs cs' < szs (cs' ++ [x]) := by rw [szs_app]; simp only [szs]; omega
    rcases du.c_inv with ⟨b, rfl, rfl⟩ | ⟨t, x1, y1, a2, vx, vy, rfl, rfl, ea2, dx, dy⟩
    · repeat walk_at "rd2"
      refine isi_of (c := "bool") true du E2.gh (show kitB "bool" "bool" = some true by decide +kernel) ?_
      repeat walk_at "rd2"
      simp only [C.size] at hl hsz
      refine ⟨ks, kvs, vs', cs', some (.bl b), rfl, E2, hd2, upd_same, da', hk, nk, fun s => ?_, fun z hz => so z (List.mem_append_left _ hz), by omega, by omega, hlt⟩
      rw [← hv]
      constructor
      · rintro (h | ⟨z, hz, hs⟩)
        · exact .inl h
        · exact .inr ⟨z, List.mem_append_left _ hz, hs⟩
      · rintro (h | ⟨z, hz, hs⟩)
        · exact .inl h
        · rcases List.mem_append.mp hz with hz | hz
          · exact .inr ⟨z, hz, hs⟩
          · have e : z = .b b := by simpa using hz
            rw [e] at hs
            cases hs
    · have eH := E2.gh _ _ ea2
      repeat walk_at "rd2"
      refine isi_of (c := "bool") false du E2.gh (show kitB "tuple" "bool" = some false by decide +kernel) ?_
      repeat walk_at "rd2"
      have kl : ks.length ≤ ns.length := nodup_len nk fun s hs => hc.vars s ((hv s).mp (.inl hs))
      have few := hn.few
      have lk : kvs.length = ks.length := by rw [← List.length_map (f := (·.1)) (as := kvs), hk, List.length_map]
      refine ⟨d, _, rfl, DPut.k (k := .inr t) hd2 (line_lt (by omega)), ?_⟩
      have E3 : Ex [] G H G (upd (upd H' p (.lst vs')) d (.dK (putK kvs (.inr t) (.bl true)))) := E2.wr gd (.inr nd)
      have hp3 : (upd (upd H' p (.lst vs')) d (.dK (putK kvs (.inr t) (.bl true)))) p = some (.lst vs') := by rw [upd_ne npd, upd_same]
      have eH3 := E3.gh _ _ ea2
      simp only [C.size] at hl hsz
      repeat walk_at "rd2"
      refine appL hp3 (line_lt (by omega)) ?_
      have E4 : Ex [] G H G (upd (upd (upd H' p (.lst vs')) d (.dK (putK kvs (.inr t) (.bl true)))) p (.lst (vs' ++ [vx]))) := E3.wr gp (.inr np0)
      have eH4 := E4.gh _ _ ea2
      repeat walk_at "rd2"
      refine appL upd_same (by rw [List.length_append]; exact line_lt (by simp; omega)) ?_
      rw [upd_upd]
      have E5 : Ex [] G H G (upd (upd (upd H' p (.lst vs')) d (.dK (putK kvs (.inr t) (.bl true)))) p (.lst (vs' ++ [vx] ++ [vy]))) := E3.wr gp (.inr np0)
      have xp1 := x1.size_pos
      have yp1 := y1.size_pos
      have ssz : szs (cs' ++ [x1] ++ [y1]) = szs cs' + x1.size + y1.size := by rw [szs_app, szs_app]; simp [szs]
      refine ⟨if t ∈ ks then ks else ks ++ [t], putK kvs (.inr t) (.bl true), vs' ++ [vx] ++ [vy], cs' ++ [x1] ++ [y1], _, rfl, E5, ?_, upd_same, ?_, keys_put hk, ?_, fun s => ?_, fun z hz s hs => ?_, ?_, ?_, ?_⟩
      · rw [upd_ne npd.symm, upd_same]
      · rw [List.map_append, List.map_append]
        exact (da'.app (.cons dx .nil)).app (.cons dy .nil)
      · split
        · exact nk
        · rename_i ht
          exact List.nodup_append.mpr ⟨nk, by simp, fun a ha b hb e => by
            have e2 : b = t := by simpa using hb
            rw [e, e2] at ha
            exact ht ha⟩
      · rw [← hv]
        have hmem : s ∈ (if t ∈ ks then ks else ks ++ [t]) ↔ s ∈ ks ∨ s = t := by
          split
          · rename_i ht
            exact ⟨.inl, fun h => h.elim id fun e => by rw [e]; exact ht⟩
          · simp
        rw [hmem]
        constructor
        · rintro ((h | h) | ⟨z, hz, hs⟩)
          · exact .inl h
          · exact .inr ⟨.nd t x1 y1, by simp, by rw [h]; exact List.mem_cons_self⟩
          · rw [List.append_assoc] at hz
            rcases List.mem_append.mp hz with hz | hz
            · exact .inr ⟨z, List.mem_append_left _ hz, hs⟩
            · refine .inr ⟨.nd t x1 y1, by simp, List.mem_cons_of_mem _ ?_⟩
              have e : z = x1 ∨ z = y1 := by simpa using hz
              rcases e with e | e
              · rw [e] at hs; exact List.mem_append_left _ hs
              · rw [e] at hs; exact List.mem_append_right _ hs
        · rintro (h | ⟨z, hz, hs⟩)
          · exact .inl (.inl h)
          · rcases List.mem_append.mp hz with hz | hz
            · exact .inr ⟨z, by rw [List.append_assoc]; exact List.mem_append_left _ hz, hs⟩
            · have e : z = .nd t x1 y1 := by simpa using hz
              rw [e] at hs
              rcases List.mem_cons.mp hs with h | hs
              · exact .inl (.inr h)
              · rcases List.mem_append.mp hs with hs | hs
                · exact .inr ⟨x1, by simp, hs⟩
                · exact .inr ⟨y1, by simp, hs⟩
      · rw [List.append_assoc] at hz
        rcases List.mem_append.mp hz with hz | hz
        · exact so z (List.mem_append_left _ hz) s hs
        · have e : z = x1 ∨ z = y1 := by simpa using hz
          refine so (.nd t x1 y1) (by simp) s (List.mem_cons_of_mem _ ?_)
          rcases e with e | e
          · rw [e] at hs; exact List.mem_append_left _ hs
          · rw [e] at hs; exact List.mem_append_right _ hs
      · exact len_szs _
      · rw [ssz]; omega
      · rw [ssz, szs_app]; simp only [szs, C.size]; omega
end
section
variable {P : Program} {w : World} {K : PySem.W.Frag} {mg : Str → Option Value} {base : Heap}
/-- a setting's number with one switch turned -/
def spTurned (K : PySem.W.Frag) : Sp := fun vs H Q _ => ∃ (k n at_ : Nat) (o : Bool), vs = [.int k, .int (2 ^ n : Nat), .int at_, .bl o] ∧ at_ < n ∧ n ≤ 20 ∧ k < 2 ^ n ∧ Q (.int (tn (2 ^ (n - 1 - at_)) k o : Nat)) H
theorem ok_turned (T : Tp K mg) : FnOk P w K mg base CX0 1 T.a_turned T.d_turned ["_law_k", "_law_many", "_law_at", "_law_on"] (spTurned K) := by
  refine T.F_turned.ok sc_turned (fun vs H Q E h => ?_) (fun cdv A outer s H vs Q E hr h => ?_)
  · obtain ⟨_, _, _, _, rfl, _⟩ := h; rfl
  obtain ⟨k, n, at_, o, rfl, ha, hn, hk, q⟩ := h
  have hu64 := hr.units
  refine ⟨_, (pss_cons (ps_set (i := 4) sc_turned.nd rfl (Or.inl rfl) (pv 1))
  (pss_cons (ps_for PassesOwn.never rfl (pi_range1 (by rfl) T.z_range (pa_cons (pe_op (op_addAK (K := K) rfl) (pv 2) pe_int) pa_nil)) (pg_name (i := 5) sc_turned.nd rfl (Or.inl rfl))
  (pss_one (ps_set (i := 4) sc_turned.nd rfl (Or.inl rfl) (pe_op op_fdiv (pv 4) pe_int))))
  (pss_cons (ps_set (i := 6) sc_turned.nd rfl (Or.inl rfl) (pv 0))
  (pss_cons (ps_if (pt_cmpR (op_eqDK (K := K) rfl hu64) (pe_op op_mod (pe_op op_fdiv (pv 0) (pe_callB (call_max2 rfl) (by rfl) T.z_max (by decide +kernel) (pa_cons pe_int (pa_cons (pv 4) pa_nil)))) pe_int) pe_int (nomark _))
  (pss_one (ps_set (i := 6) sc_turned.nd rfl (Or.inl rfl) (pe_op op_sub (pv 0) (pv 4))))
  pss_nil)
  (pss_cons (ps_if (pt_truthK (K := K) rfl (pv 3) (by intro _; rfl))
  (pss_one (ps_ret (pe_op (op_addAK (K := K) rfl) (pv 6) (pv 4))))
  pss_nil)
  (pss_one (ps_ret (pv 6)))))))), ?_⟩
  have pw : (2 ^ n : Nat) ≤ 2 ^ 20 := Nat.pow_le_pow_right (by decide) hn
  have pv20 : (2 : Nat) ^ 20 = 1048576 := by decide
  repeat walk_at "rd2"
  refine for_range (lo := 0) (n := (((at_ : Int) + 1) - 0).toNat) (fun i σ H' => H' = H ∧ ∃ x : Option V, σ = [some (.int k), some (.int (2 ^ n : Nat)), some (.int at_), some (.bl o), some (.int (2 ^ (n - i) : Nat)), x, none]) ⟨rfl, none, rfl⟩ (fun i σ H' hi hp => ?_) (fun σ H' hp => ?_)
  · obtain ⟨rfl, x, rfl⟩ := hp
    have e : (((2 ^ (n - i) : Nat) : Int) / 2) = ((2 ^ (n - (i + 1)) : Nat) : Int) := by
      have z : 2 ^ (n - i) = 2 ^ (n - (i + 1)) * 2 := by rw [← Nat.pow_succ]; congr 1; omega
      rw [z]
      omega
    repeat walk_at "rd2"
    refine ⟨some (.int (0 + (i : Nat))), ?_⟩
    show [_, _, _, _, some (V.int (((2 ^ (n - i) : Nat) : Int) / 2)), _, _] = _
    rw [e]
  · obtain ⟨rfl, x, rfl⟩ := hp
    have ei : n - (((at_ : Int) + 1) - 0).toNat = n - 1 - at_ := by omega
    rw [ei]
    have wp := Nat.two_pow_pos (n - 1 - at_)
    have wl : 2 ^ (n - 1 - at_) ≤ 2 ^ 20 := Nat.pow_le_pow_right (by decide) (by omega)
    generalize hw : 2 ^ (n - 1 - at_) = wt at q wp wl
    repeat walk_at "rd2"
    have mx : (if ((wt : Nat) : Int) > 1 then ((wt : Nat) : Int) else 1) = (wt : Int) := by split <;> omega
    refine ⟨_, _, rfl, ?_⟩
    rw [mx]
    repeat walk_at "rd2"
    have c1 : (((k : Int) / (wt : Int)) % 2 == 1) = decide (k / wt % 2 = 1) := by
      rw [Bool.eq_iff_iff, beq_iff_eq, decide_eq_true_iff]
      omega
    rw [c1]
    refine ite2 (fun e => ?_) (fun e => ?_)
    · have e : k / wt % 2 = 1 := of_decide_eq_true e
      have lt : wt ≤ k := Classical.byContradiction fun z => by
        rw [Nat.div_eq_of_lt (by omega)] at e
        cases e
      repeat walk_at "rd2"
      have r : ((tn wt k o : Nat) : Int) = (k : Int) - wt + (if o then (wt : Int) else 0) := by
        unfold tn
        rw [if_pos e]
        cases o <;> simp <;> omega
      rw [r] at q
      cases o with
      | true =>
        repeat walk_at "rd2"
        exact q
      | false =>
        repeat walk_at "rd2"
        simpa using q
    · have e : ¬ k / wt % 2 = 1 := fun z => e (decide_eq_true z)
      repeat walk_at "rd2"
      have r : ((tn wt k o : Nat) : Int) = (k : Int) + (if o then (wt : Int) else 0) := by
        unfold tn
        rw [if_neg e]
        cases o <;> simp
      rw [r] at q
      cases o with
      | true =>
        repeat walk_at "rd2"
        exact q
      | false =>
        repeat walk_at "rd2"
        simpa using q
/-- the condition of a truth row -/
def spForm (K : PySem.W.Frag) (n : Nat) : Sp := fun vs H Q _ => ∃ (v1 v2 : V) (ns : List Str) (bs : List Bool) (G : Hp), vs = [v1, v2] ∧ Same G H ∧ NS ns ∧ bs.length = 2 ^ ns.length ∧ ns.length < n ∧ Dat G v1 (.list (ns.map PyData.str)) ∧ Dat G v2 (.list (bs.map PyData.bool)) ∧
  ∀ G' H' r c, Ex [] G H G' H' → Rep ns c bs → Dat G' r c.enc → Q r H'
theorem ok_form (T : Tp K mg) : ∀ n : Nat, FnOk P w K mg base CX0 n T.a_form T.d_form ["_law_names", "_law_bits_here"] (spForm K n)
  | 0 => fn_none fun vs H Q E h => by obtain ⟨_, _, _, _, _, _, _, _, _, h, _⟩ := h; omega
  | n + 1 => by
    have G_form := ok_form T n
    refine T.F_form.ok sc_form (fun vs H Q E h => ?_) (fun cdv A outer s H vs Q E hr h => ?_)
    · obtain ⟨_, _, _, _, _, rfl, _⟩ := h; rfl
    obtain ⟨v1, v2, ns, bs, G, rfl, sm, hn, hb, hl, d1, d2, q⟩ := h
    have hu64 := hr.units
    refine ⟨_, (pss_cons (ps_if (pt_cmpR (op_eqDK (K := K) rfl hu64) (pe_callB (call_lenK (K := K) rfl) (by rfl) T.z_len (by decide +kernel) (pa_cons (pv 0) pa_nil)) pe_int (nomark _))
  (pss_one (ps_ret (pe_ix (ix_seqK (K := K) rfl) (pv 1) pe_int (fun _ _ => rfl))))
  pss_nil)
  (pss_cons (ps_set (i := 2) sc_form.nd rfl (Or.inl rfl) (pe_op op_fdiv (pe_callB (call_lenK (K := K) rfl) (by rfl) T.z_len (by decide +kernel) (pa_cons (pv 1) pa_nil)) pe_int))
  (pss_cons (ps_set (i := 3) sc_form.nd rfl (Or.inl rfl) (pe_call G_form (hr.mono (by omega)) (by rfl) T.g_form T.F_form.kp T.b_form .nil pass0 (pa_cons (pe_slice (sl_anyK (K := K) rfl) (pv 0) (po_some pe_int) po_none) (pa_cons (pe_slice (sl_anyK (K := K) rfl) (pv 1) po_none (po_some (pv 2))) pa_nil))))
  (pss_cons (ps_set (i := 4) sc_form.nd rfl (Or.inl rfl) (pe_call G_form (hr.mono (by omega)) (by rfl) T.g_form T.F_form.kp T.b_form .nil pass0 (pa_cons (pe_slice (sl_anyK (K := K) rfl) (pv 0) (po_some pe_int) po_none) (pa_cons (pe_slice (sl_anyK (K := K) rfl) (pv 1) (po_some (pv 2)) po_none) pa_nil))))
  (pss_cons (ps_if (pt_cmpR (op_eqDK (K := K) rfl hu64) (pv 4) (pv 3) (nomark _))
  (pss_one (ps_ret (pv 4)))
  pss_nil)
  (pss_one (ps_ret (pe_tup (pa_cons (pe_ix (ix_seqK (K := K) rfl) (pv 0) pe_int (fun _ _ => rfl)) (pa_cons (pv 4) (pa_cons (pv 3) pa_nil))))))))))), ?_⟩
    obtain ⟨a1, x1, rfl, e1, da1⟩ := d1.list_inv
    obtain ⟨a2, x2, rfl, e2, da2⟩ := d2.list_inv
    have z1 := da1.strs_inv
    have z2 := da2.bls_inv
    subst z1 z2
    have eH1 := sm _ _ e1
    have eH2 := sm _ _ e2
    repeat walk_at "rd2"
    cases ns with
    | nil =>
      repeat walk_at "rd2"
      obtain ⟨b, rfl⟩ : ∃ b, bs = [b] := by
        match bs, hb with
        | [b], _ => exact ⟨b, rfl⟩
      repeat walk_at "rd2"
      exact q G H _ (.b b) (Ex.refl sm) ⟨.leaf b, rfl, fun k hk => by
        have e : k = 0 := by simpa using hk
        subst e
        rfl⟩ (.bl b)
    | cons x xs =>
      have nx := List.nodup_cons.mp hn.nd
      have nxs : NS xs := by
        have k : NS ([x] ++ xs) := hn
        exact k.suf
      have few := hn.few
      have pw := Nat.two_pow_pos xs.length
      have pf : 2 ^ xs.length ≤ 2 ^ 12 := Nat.pow_le_pow_right (by decide) (by rw [List.length_cons] at few; omega)
      rw [List.length_cons, Nat.pow_succ] at hb
      rw [List.length_cons] at hl
      refine ite2 (fun c => ?_) (fun c => ?_)
      · rw [beq_iff_eq, List.length_map, List.length_cons] at c
        omega
      repeat walk_at "rd2"
      have hh : ((((bs.map V.bl).length : Nat) : Int) / 2) = ((2 ^ xs.length : Nat) : Int) := by
        rw [List.length_map, hb]
        omega
      dsimp only
      rw [hh]
      repeat walk_at "rd3"
      refine slL eH1 fun p1 n1 => ?_
      have E1 : Ex [] G H (upd G p1 (.lst (cutV ((x :: xs).map V.str) (some 1) none))) (upd H p1 (.lst (cutV ((x :: xs).map V.str) (some 1) none))) := (Ex.refl sm).dat n1
      have cx : cutV ((x :: xs).map V.str) (some 1) none = xs.map V.str := cut_from _ 1
      rw [cx] at E1 ⊢
      have eH2' := E1.same _ _ eH2
      repeat walk_at "rd3"
      refine slL eH2' fun p2 n2 => ?_
      rw [cut_to, ← List.map_take]
      have E2 := E1.dat (o := .lst ((bs.take (2 ^ xs.length)).map V.bl)) n2
      have k1 : Dat (upd (upd G p1 (.lst (xs.map V.str))) p2 (.lst ((bs.take (2 ^ xs.length)).map V.bl))) (.ref p1) (.list (xs.map PyData.str)) := (Dat.newL (DatA.strs xs) (sm.free n1)).up (same_updG (E1.gh.free n2))
      have k2 : Dat (upd (upd G p1 (.lst (xs.map V.str))) p2 (.lst ((bs.take (2 ^ xs.length)).map V.bl))) (.ref p2) (.list ((bs.take (2 ^ xs.length)).map PyData.bool)) := Dat.newL (DatA.bls _) (E1.gh.free n2)
      repeat walk_at "rd3"
      refine ⟨.ref p1, .ref p2, xs, bs.take (2 ^ xs.length), _, rfl, E2.gh, nxs, by rw [List.length_take]; omega, by omega, k1, k2, fun G1 H1 r1 c1 E3 rep1 d1' => ?_⟩
      have E123 := E2.trans E3
      have eH1b := E123.same _ _ eH1
      have eH2b := E123.same _ _ eH2
      repeat walk_at "rd3"
      refine slL eH1b fun p3 n3 => ?_
      rw [cx]
      have E4 := E123.dat (o := .lst (xs.map V.str)) n3
      have eH2c := E4.same _ _ eH2
      repeat walk_at "rd3"
      refine slL eH2c fun p4 n4 => ?_
      rw [cut_from, ← List.map_drop]
      have E5 := E4.dat (o := .lst ((bs.drop (2 ^ xs.length)).map V.bl)) n4
      have k3 : Dat (upd (upd G1 p3 (.lst (xs.map V.str))) p4 (.lst ((bs.drop (2 ^ xs.length)).map V.bl))) (.ref p3) (.list (xs.map PyData.str)) := (Dat.newL (DatA.strs xs) (E123.gh.free n3)).up (same_updG (E4.gh.free n4))
      have k4 : Dat (upd (upd G1 p3 (.lst (xs.map V.str))) p4 (.lst ((bs.drop (2 ^ xs.length)).map V.bl))) (.ref p4) (.list ((bs.drop (2 ^ xs.length)).map PyData.bool)) := Dat.newL (DatA.bls _) (E4.gh.free n4)
      have d1'' := (d1'.up (same_updG (o := .lst (xs.map V.str)) (E123.gh.free n3))).up (same_updG (o := .lst ((bs.drop (2 ^ xs.length)).map V.bl)) (E4.gh.free n4))
      repeat walk_at "rd3"
      refine ⟨.ref p3, .ref p4, xs, bs.drop (2 ^ xs.length), _, rfl, E5.gh, nxs, by rw [List.length_drop]; omega, by omega, k3, k4, fun G2 H2 r2 c2 E6 rep2 d2' => ?_⟩
      have E7 := E5.trans E6
      have d1f := d1''.up E6.gg
      have eH1d := E7.same _ _ eH1
      repeat walk_at "rd3"
      refine eqD_of d2' d1f E7.gh (rep2.oc.shaped nxs) (rep1.oc.shaped nxs) ?_
      rw [C.eqv_iff]
      have rp : Rep (x :: xs) (C.formed x c2 c1) bs := by
        have k := Rep.form rep1 rep2 nx.1
        rw [List.take_append_drop] at k
        exact k
      repeat walk_at "rd3"
      refine ite2 (fun e => ?_) (fun e => ?_)
      · have e : c2 = c1 := of_decide_eq_true e
        repeat walk_at "rd3"
        refine q _ _ _ _ E7 rp ?_
        unfold C.formed
        rw [if_pos e]
        exact d2'
      · have e : ¬ c2 = c1 := fun z => e (decide_eq_true z)
        repeat walk_at "rd3"
        refine ⟨line_le (by show 3 ≤ _; decide), fun p5 n5 => ?_⟩
        refine q _ _ _ _ (E7.dat n5) rp ?_
        unfold C.formed
        rw [if_neg e]
        exact Dat.newT (.cons (.str x) (.cons d2' (.cons d1f .nil))) (E7.gh.free n5)
/-- the same data, told twice; n: the calls that are allowed -/
def tame : PyData → Bool
  | .none => true
  | .bool _ => true
  | .int _ => true
  | .str s => PyData.strOk s
  | .tuple ds => decide (ds.length ≤ 1000) && tames ds
  | .list _ => false
  | .dict _ => false
where tames : List PyData → Bool
  | [] => true
  | d :: r => tame d && tames r
theorem tame_get : ∀ {ds : List PyData} {i : Nat} {d : PyData}, tame.tames ds = true → ds[i]? = some d → tame d = true
  | [], _, _, _, h => by simp at h
  | x :: r, 0, d, t, h => by
    have e : x = d := Option.some.inj h
    subst e
    exact (Bool.and_eq_true_iff.mp (show (tame x && tame.tames r) = true from t)).1
  | x :: r, i + 1, d, t, h => tame_get (ds := r) (i := i) (Bool.and_eq_true_iff.mp (show (tame x && tame.tames r) = true from t)).2 (by simpa using h)
theorem depth_get : ∀ {ds : List PyData} {i : Nat} {d : PyData}, ds[i]? = some d → d.depth ≤ PyData.depthAll ds
  | [], _, _, h => by simp at h
  | x :: r, 0, d, h => by
    have e : x = d := Option.some.inj h
    subst e
    exact Nat.le_max_left _ _
  | x :: r, i + 1, d, h => Nat.le_trans (depth_get (ds := r) (i := i) (by simpa using h)) (Nat.le_max_right _ _)
def spWhole (K : PySem.W.Frag) : Sp := fun vs H Q _ => ∃ i : Int, vs = [.int i] ∧ Q (.bl true) H
theorem ok_whole (T : Tp K mg) : FnOk P w K mg base CX0 1 T.a_whole T.d_whole ["_law_thing"] (spWhole K) := by
  refine T.F_whole.ok sc_whole (fun vs H Q E h => ?_) (fun cdv A outer s H vs Q E hr h => ?_)
  · obtain ⟨_, rfl, _⟩ := h; rfl
  obtain ⟨i, rfl, q⟩ := h
  refine ⟨_, (pss_one (ps_ret (pe_and (pe_callB (call_isiK' (K := K) rfl) (by rfl) T.z_isinstance (by decide +kernel) (pa_cons (pv 0) (pa_cons (pe_bltn (v := V.ty "int") (u := Value.type "int") (by rfl) T.z_int (by decide +kernel) rfl) pa_nil))) (pe_one (pe_notTK (K := K) rfl (pe_callB (call_isiK' (K := K) rfl) (by rfl) T.z_isinstance (by decide +kernel) (pa_cons (pv 0) (pa_cons (pe_bltn (v := V.ty "bool") (u := Value.type "bool") (by rfl) T.z_bool (by decide +kernel) rfl) pa_nil)))))))), ?_⟩
  repeat walk_at "rd3"
  exact q
def spAlike (K : PySem.W.Frag) (n : Nat) : Sp := fun vs H Q _ => ∃ (v1 v2 : V) (d : PyData) (G : Hp), vs = [v1, v2] ∧ Same G H ∧ Dat G v1 d ∧ Dat G v2 d ∧ tame d = true ∧ d.depth < n ∧ ∀ G' H', Ex [] G H G' H' → Q (.bl true) H'
theorem ok_alike (T : Tp K mg) : ∀ n : Nat, FnOk P w K mg base CX0 (n + 1) T.a_alike T.d_alike ["_law_told", "_law_due"] (spAlike K n)
  | 0 => fn_none fun vs H Q E h => by obtain ⟨_, _, _, _, _, _, _, _, _, h, _⟩ := h; omega
  | n + 1 => by
    have G_alike := ok_alike T n
    have G_whole := ok_whole (P := P) (w := w) (base := base) T
    refine T.F_alike.ok sc_alike (fun vs H Q E h => ?_) (fun cdv A outer s H vs Q E hr h => ?_)
    · obtain ⟨_, _, _, _, rfl, _⟩ := h; rfl
    obtain ⟨v1, v2, d, G, rfl, sm, d1, d2, tm, dp, q⟩ := h
    have hu64 := hr.units
    refine ⟨_, (pss_cons (ps_if (pt_truthK (K := K) rfl (pe_callB (call_isiK' (K := K) rfl) (by rfl) T.z_isinstance (by decide +kernel) (pa_cons (pv 1) (pa_cons (pe_bltn (v := V.ty "bool") (u := Value.type "bool") (by rfl) T.z_bool (by decide +kernel) rfl) pa_nil))) (by intro _; rfl))
  (pss_one (ps_ret (pe_and (pe_callB (call_isiK' (K := K) rfl) (by rfl) T.z_isinstance (by decide +kernel) (pa_cons (pv 0) (pa_cons (pe_bltn (v := V.ty "bool") (u := Value.type "bool") (by rfl) T.z_bool (by decide +kernel) rfl) pa_nil))) (pe_one (pe_cmpR (op_eqDK (K := K) rfl hu64) (pv 0) (pv 1) (nomark _))))))
  pss_nil)
  (pss_cons (ps_if (pt_truthK (K := K) rfl (pe_callB (call_isiK' (K := K) rfl) (by rfl) T.z_isinstance (by decide +kernel) (pa_cons (pv 1) (pa_cons (pe_bltn (v := V.ty "tuple") (u := Value.type "tuple") (by rfl) T.z_tuple (by decide +kernel) rfl) pa_nil))) (by intro _; rfl))
  (pss_cons (ps_if (PW.pt (pw_or (pt_not (pt_truthK (K := K) rfl (pe_callB (call_isiK' (K := K) rfl) (by rfl) T.z_isinstance (by decide +kernel) (pa_cons (pv 0) (pa_cons (pe_bltn (v := V.ty "tuple") (u := Value.type "tuple") (by rfl) T.z_tuple (by decide +kernel) rfl) pa_nil))) (by intro _; rfl))) (pw_or1 (pt_cmpR (op_neDK (K := K) rfl hu64) (pe_callB (call_lenK (K := K) rfl) (by rfl) T.z_len (by decide +kernel) (pa_cons (pv 0) pa_nil)) (pe_callB (call_lenK (K := K) rfl) (by rfl) T.z_len (by decide +kernel) (pa_cons (pv 1) pa_nil)) (nomark _)))))
  (pss_one (ps_ret pe_bl))
  pss_nil)
  (pss_one (ps_ret (pe_cmpR (op_eqDK (K := K) rfl hu64) (pe_callB (call_lenK (K := K) rfl) (by rfl) T.z_len (by decide +kernel) (pa_cons (pe_lc (own := [("_law_k", 2)]) rfl sc_alike.nd (pi_range1 (by rfl) T.z_range (pa_cons (pe_callB (call_lenK (K := K) rfl) (by rfl) T.z_len (by decide +kernel) (pa_cons (pv 1) pa_nil)) pa_nil)) (blkOk_by (own := [("_law_k", 2)]) (N := ["_law_told", "_law_due", "_law_k"]) (sc := defScope s_alike) (scope := { kind := PySem.ScopeKind.function, names := [ (PySem.Str.ofString ".0", PySem.NameKind.local), (PySem.Str.ofString "_law_k", PySem.NameKind.local), (PySem.Str.ofString "_law_alike", PySem.NameKind.globalImplicit), (PySem.Str.ofString "_law_due", PySem.NameKind.free), (PySem.Str.ofString "_law_told", PySem.NameKind.free)], isGenerator := false, isCoroutine := false, more := [] : PySem.Scope }) (by decide +kernel)) (fun _ _ _ _ _ => (pg_name (i := 2) sc_alike.nd rfl (Or.inl rfl) (Or.inr rfl))) (fun _ _ _ _ _ => (pts_one (pt_not (pt_truthK (K := K) rfl (pe_call G_alike (hr.mono (by omega)) (by rfl) T.g_alike T.F_alike.kp T.b_alike .nil pass0 (pa_cons (pe_ix (ix_seqK (K := K) rfl) (pv 0) (pv 2) (fun _ _ => rfl)) (pa_cons (pe_ix (ix_seqK (K := K) rfl) (pv 1) (pv 2) (fun _ _ => rfl)) pa_nil))) (by intro _; rfl))))) (fun _ _ _ _ _ => (pv 2))) pa_nil)) pe_int (nomark _)))))
  pss_nil)
  (pss_cons (ps_if (pt_truthK (K := K) rfl (pe_callB (call_isiK' (K := K) rfl) (by rfl) T.z_isinstance (by decide +kernel) (pa_cons (pv 1) (pa_cons (pe_bltn (v := V.ty "int") (u := Value.type "int") (by rfl) T.z_int (by decide +kernel) rfl) pa_nil))) (by intro _; rfl))
  (pss_one (ps_ret (pe_and (pe_call G_whole (hr.mono (by omega)) (by rfl) T.g_whole T.F_whole.kp T.b_whole .nil pass0 (pa_cons (pv 0) pa_nil)) (pe_one (pe_cmpR (op_eqDK (K := K) rfl hu64) (pv 0) (pv 1) (nomark _))))))
  pss_nil)
  (pss_cons (ps_if (pt_truthK (K := K) rfl (pe_callB (call_isiK' (K := K) rfl) (by rfl) T.z_isinstance (by decide +kernel) (pa_cons (pv 1) (pa_cons (pe_bltn (v := V.ty "str") (u := Value.type "str") (by rfl) T.z_str (by decide +kernel) rfl) pa_nil))) (by intro _; rfl))
  (pss_one (ps_ret (pe_and (pe_callB (call_isiK' (K := K) rfl) (by rfl) T.z_isinstance (by decide +kernel) (pa_cons (pv 0) (pa_cons (pe_bltn (v := V.ty "str") (u := Value.type "str") (by rfl) T.z_str (by decide +kernel) rfl) pa_nil))) (pe_one (pe_cmpR (op_eqDK (K := K) rfl hu64) (pv 0) (pv 1) (nomark _))))))
  pss_nil)
  (pss_one (ps_ret (pe_and (pe_cmpR op_isC (pv 1) pe_non (nomark _)) (pe_one (pe_cmpR op_isC (pv 0) pe_non (nomark _)))))))))), ?_⟩
    cases d with
    | none =>
      cases d1
      cases d2
      repeat walk_at "rd3"
      exact q G H (Ex.refl sm)
    | bool b =>
      cases d1
      cases d2
      repeat walk_at "rd3"
      rw [beq_self_eq_true]
      exact q G H (Ex.refl sm)
    | int i =>
      cases d1
      cases d2
      repeat walk_at "rd3"
      rw [beq_self_eq_true]
      exact q G H (Ex.refl sm)
    | str z =>
      cases d1
      cases d2
      repeat walk_at "rd3"
      refine eqD_str tm tm ?_
      rw [beq_self_eq_true]
      exact q G H (Ex.refl sm)
    | list ds => cases tm
    | dict ds => cases tm
    | tuple ds =>
      obtain ⟨a1, x1, rfl, e1, da1⟩ := d1.tup_inv
      obtain ⟨a2, x2, rfl, e2, da2⟩ := d2.tup_inv
      have eH1 := sm _ _ e1
      have eH2 := sm _ _ e2
      have l1 := da1.len
      have l2 := da2.len
      have tm : (decide (ds.length ≤ 1000) && tame.tames ds) = true := tm
      rw [Bool.and_eq_true, decide_eq_true_iff] at tm
      have tm1 := tm.1
      repeat walk_at "rd3"
      rw [l1, l2, beq_self_eq_true]
      repeat walk_at "rd3"
      refine comp_goD (M := []) (fun i acc G' H' => acc = []) walk_range sm (line_lt (by omega)) (fun m hm => nomatch hm) (fun _ _ _ => trivial) rfl (fun i acc G' H' D o hp n1 n2 => hp) (fun i acc G' H' D o hp n1 n2 => hp)
        (fun i acc G2 H2 hi E2 hp C C' hC hC' => ?_) (fun G' H' r acc E2 dr hacc hp => ?_)
      · subst hp
        have i2 : i < ds.length := by omega
        have eH1' := E2.same _ _ eH1
        have eH2' := E2.same _ _ eH2
        obtain ⟨u1, g1, b1⟩ := da1.get (List.getElem?_eq_getElem i2)
        obtain ⟨u2, g2, b2⟩ := da2.get (List.getElem?_eq_getElem i2)
        have tg := tame_get tm.2 (List.getElem?_eq_getElem i2)
        have dg : ds[i].depth ≤ PyData.depthAll ds := depth_get (List.getElem?_eq_getElem i2)
        have dq : PyData.depthAll ds + 1 < n + 1 := dp
        have ti : (0 + (i : Int)).toNat = i := by omega
        refine ⟨rfl, ?_⟩
        repeat walk_at "rd3"
        refine ixT eH1' (by omega) (by rw [ti]; exact g1) ?_
        repeat walk_at "rd3"
        refine ixT eH2' (by omega) (by rw [ti]; exact g2) ?_
        repeat walk_at "rd3"
        refine ⟨u1, u2, ds[i], G2, rfl, E2.gh, b1.up E2.gg, b2.up E2.gg, tg, by omega, fun G3 H3 E3 => ?_⟩
        repeat walk_at "rd3"
        exact hC' G3 H3 E3 rfl
      · subst hp
        obtain ⟨a3, x3, er, e3, da3⟩ := dr.list_inv
        cases er
        cases da3
        have eH3 := E2.gh _ _ e3
        repeat walk_at "rd3"
        exact q G' H' E2
end
section
variable {P : Program} {w : World} {K : PySem.W.Frag} {mg : Str → Option Value} {base : Heap}
/-- all settings -/
def spSettings (K : PySem.W.Frag) : Sp := fun vs H Q _ => ∃ (v : V) (ns : List Str) (G : Hp), vs = [v] ∧ Same G H ∧ ns.length ≤ 12 ∧ Dat G v (strsD ns) ∧
  ∀ G' H' r, Ex [] G H G' H' → Dat G' r (.list ((SL ns).map strsD)) → Q r H'
theorem ok_settings (T : Tp K mg) : FnOk P w K mg base CX0 1 T.a_settings T.d_settings ["_law_names"] (spSettings K) := by
  refine T.F_settings.ok sc_settings (fun vs H Q E h => ?_) (fun cdv A outer s H vs Q E hr h => ?_)
  · obtain ⟨_, _, _, rfl, _⟩ := h; rfl
  obtain ⟨v, ns, G, rfl, sm, few, d1, q⟩ := h
  refine ⟨_, (pss_cons (ps_set (i := 1) sc_settings.nd rfl (Or.inl rfl) (pe_lst (pa_cons (pe_lst pa_nil) pa_nil)))
  (pss_cons (ps_for PassesOwn.never rfl (pi_reversedK (K := K) rfl (by rfl) T.z_reversed (pa_cons (pv 0) pa_nil)) (pg_name (i := 2) sc_settings.nd rfl (Or.inr rfl))
  (pss_one (ps_set (i := 1) sc_settings.nd rfl (Or.inl rfl) (pe_op (op_addAK (K := K) rfl) (pv 1) (pe_lc (own := [("_law_row", 3)]) rfl sc_settings.nd (pi_listK (K := K) rfl (pv 1)) (blkOk_by (own := [("_law_row", 3)]) (N := ["_law_names", "_law_told", "_law_switch", "_law_row"]) (sc := defScope s_settings) (scope := { kind := PySem.ScopeKind.function, names := [ (PySem.Str.ofString ".0", PySem.NameKind.local), (PySem.Str.ofString "_law_row", PySem.NameKind.local), (PySem.Str.ofString "_law_switch", PySem.NameKind.free)], isGenerator := false, isCoroutine := false, more := [] : PySem.Scope }) (by decide +kernel)) (fun _ _ _ _ _ => (pg_name (i := 3) sc_settings.nd rfl (Or.inl rfl) (Or.inr rfl))) (fun _ _ _ _ _ => pts_nil) (fun _ _ _ _ _ => (pe_op (op_addAK (K := K) rfl) (pe_lst (pa_cons (pv 2) pa_nil)) (pv 3))))))))
  (pss_one (ps_ret (pv 1))))), ?_⟩
  obtain ⟨a, x, rfl, ea, da⟩ := d1.list_inv
  have z := da.strs_inv
  subst z
  have eH := sm _ _ ea
  repeat walk_at "rd3"
  refine ⟨line_le (Nat.zero_le _), fun p1 n1 => ?_⟩
  have E1 := (Ex.refl (M := []) sm).dat (o := .lst []) n1
  repeat walk_at "rd3"
  refine ⟨line_le (by show 1 ≤ _; decide), fun p2 n2 => ?_⟩
  have E2 := E1.dat (o := .lst [.ref p1]) n2
  have k2 : Dat (upd (upd G p1 (.lst [])) p2 (.lst [.ref p1])) (.ref p2) (.list ((SL []).map strsD)) := Dat.newL (.cons (Dat.newL .nil (sm.free n1)) .nil) (E1.gh.free n2)
  have eH2 := E2.same _ _ eH
  repeat walk_at "rd3"
  refine ⟨a, ns.map V.str, rfl, SqL.of eH2, ?_⟩
  refine for_go walk_rev (fun i σ H' => ∃ (G' : Hp) (v2 : V) (y z : Option V), σ = [some (.ref a), some v2, y, z] ∧ Ex [] G H G' H' ∧ Dat G' v2 (.list ((SL (ns.drop (ns.length - i))).map strsD)))
    ⟨_, .ref p2, none, none, rfl, E2, by rw [Nat.sub_zero, List.drop_length]; exact k2⟩ (fun i σ H' hi hp => ?_) (fun i σ H' hi hp => ?_) (fun σ H' hp => ?_)
  · obtain ⟨G', v2, y, z, rfl, E3, k3⟩ := hp
    exact E3.same _ _ eH
  · obtain ⟨G', v2, y, z, rfl, E3, k3⟩ := hp
    rw [List.length_map] at hi
    have hj : ns.length - 1 - i < ns.length := by omega
    have hx : nth (ns.map V.str) ((ns.map V.str).length - 1 - i) = .str ns[ns.length - 1 - i] := by
      have k := nth_at (xs := ns.map V.str) (i := (ns.map V.str).length - 1 - i) (by rw [List.length_map]; exact hj)
      rw [List.getElem?_map, List.length_map, List.getElem?_eq_getElem hj] at k
      rw [List.length_map]
      exact (Option.some.inj k).symm
    have hdr : ns.drop (ns.length - (i + 1)) = ns[ns.length - 1 - i] :: ns.drop (ns.length - i) := by
      have k := List.drop_eq_getElem_cons hj
      rw [show ns.length - (i + 1) = ns.length - 1 - i by omega, k]
      congr 2
      omega
    rw [hx]
    generalize ns[ns.length - 1 - i] = sw at *
    generalize hxs : ns.drop (ns.length - i) = xs at *
    have lxs : xs.length ≤ 12 := by rw [← hxs, List.length_drop]; omega
    have lSL : (SL xs).length ≤ 2 ^ 12 := by rw [SL_len]; exact Nat.pow_le_pow_right (by decide) lxs
    obtain ⟨b, ws, rfl, eb, db⟩ := k3.list_inv
    have lw := db.len
    rw [List.length_map] at lw
    have eHb := E3.gh _ _ eb
    repeat walk_at "rd3"
    refine ⟨⟨_, SqL.of eHb⟩, ?_⟩
    refine comp_goD (M := []) (fun i acc G' H' => acc = ((SL xs).take i).map fun l => strsD (sw :: l)) walk_list E3.gh (line_lt (by omega)) (fun m hm => nomatch hm) (fun G4 H4 E4 => E4.same _ _ eHb) rfl (fun i acc G' H' D o hp n1 n2 => hp) (fun i acc G' H' D o hp n1 n2 => hp)
        (fun j acc G4 H4 hj2 E4 hp C C' hC hC' => ?_) (fun G4 H4 D acc E4 dr hacc hp => ?_)
    · have hj3 : j < (SL xs).length := by omega
      have hg : ((SL xs).map strsD)[j]? = some (strsD (SL xs)[j]) := by rw [List.getElem?_map, List.getElem?_eq_getElem hj3]; rfl
      obtain ⟨u, gu, du⟩ := db.get hg
      have nu : nth ws j = u := Option.some.inj ((nth_at hj2).symm.trans gu)
      rw [nu]
      obtain ⟨b2, ws2, rfl, eb2, db2⟩ := du.list_inv
      have z2 := db2.strs_inv
      subst z2
      have eHb2 := E4.gh _ _ (E4.gg _ _ eb2)
      have lfew := (SL_few (List.getElem_mem hj3)).1
      repeat walk_at "rd3"
      refine ⟨line_le (by show 1 ≤ _; decide), fun p3 n3 => ?_⟩
      have E5 := (Ex.refl (M := []) E4.gh).dat (o := .lst [.str sw]) n3
      have eHb3 := E5.same _ _ eHb2
      repeat walk_at "rd3"
      refine .inr (.inr (.inl ⟨p3, b2, _, _, rfl, rfl, upd_same, eHb3, line_le (by rw [List.length_map]; simp; omega), fun p4 n4 => ?_⟩))
      have E6 := E5.dat (o := .lst ([.str sw] ++ (SL xs)[j].map V.str)) n4
      refine hC _ _ _ (strsD (sw :: (SL xs)[j])) E6 (Dat.newL (DatA.strs (sw :: (SL xs)[j])) (E5.gh.free n4)) ?_
      rw [hp, List.take_add_one, List.getElem?_eq_getElem hj3, List.map_append]
      rfl
    · have e : acc = (SL xs).map fun l => strsD (sw :: l) := by
        rw [hp, List.take_of_length_le (by omega)]
      subst e
      obtain ⟨b3, ws3, er, eb3, db3⟩ := dr.list_inv
      cases er
      have eHb4 := E4.gh _ _ eb3
      have eHb5 := E4.same _ _ eHb
      have l3 := db3.len
      rw [List.length_map] at l3
      refine .inr (.inr (.inl ⟨b, D, _, _, rfl, rfl, eHb5, eHb4, line_le (by omega), fun p4 n4 => ?_⟩))
      have E5 := (E3.trans E4).dat (o := .lst (ws ++ ws3)) n4
      refine ⟨_, .ref p4, _, _, rfl, E5, ?_⟩
      rw [hdr]
      have dd := Dat.newL (p := p4) ((db.up E4.gg).app db3) (E4.gh.free n4)
      have e2 : (SL (sw :: xs)).map strsD = (SL xs).map strsD ++ (SL xs).map fun l => strsD (sw :: l) := by
        show (SL xs ++ (SL xs).map (sw :: ·)).map strsD = _
        rw [List.map_append, List.map_map]
        rfl
      rw [e2]
      exact dd
  · obtain ⟨G', v2, y, z, rfl, E3, k3⟩ := hp
    rw [List.length_map, Nat.sub_self, List.drop_zero] at k3
    repeat walk_at "rd3"
    exact q G' H' v2 E3 k3
/-- the switches that matter -/
def spMatter (K : PySem.W.Frag) : Sp := fun vs H Q _ => ∃ (v1 v2 : V) (ns : List Str) (c : C) (row : List Bool) (G : Hp), vs = [v1, v2] ∧ Same G H ∧ NS ns ∧ Rep ns c row ∧ Dat G v1 (strsD ns) ∧ Dat G v2 (.list (row.map PyData.bool)) ∧
  ∀ G' H' r, Ex [] G H G' H' → Dat G' r (.tuple ((ns.filter fun s => decide (s ∈ c.vars)).map PyData.str)) → Q r H'
theorem ok_matter (T : Tp K mg) : FnOk P w K mg base CX0 2 T.a_matter T.d_matter ["_law_names", "_law_row"] (spMatter K) := by
  have G_turned := ok_turned (P := P) (w := w) (base := base) T
  refine T.F_matter.ok sc_matter (fun vs H Q E h => ?_) (fun cdv A outer s H vs Q E hr h => ?_)
  · obtain ⟨_, _, _, _, _, _, rfl, _⟩ := h; rfl
  obtain ⟨v1, v2, ns, c, row, G, rfl, sm, hn, rp, d1, d2, q⟩ := h
  have hu64 := hr.units
  refine ⟨_, (pss_cons (ps_set (i := 2) sc_matter.nd rfl (Or.inr rfl) (pe_callB (call_lenK (K := K) rfl) (by rfl) T.z_len (by decide +kernel) (pa_cons (pv 1) pa_nil)))
  (pss_cons (ps_set (i := 3) sc_matter.nd rfl (Or.inl rfl) (pe_lst pa_nil))
  (pss_cons (ps_for PassesOwn.never rfl (pi_range1 (by rfl) T.z_range (pa_cons (pe_callB (call_lenK (K := K) rfl) (by rfl) T.z_len (by decide +kernel) (pa_cons (pv 0) pa_nil)) pa_nil)) (pg_name (i := 4) sc_matter.nd rfl (Or.inr rfl))
  (pss_cons (ps_setLc (i := 5) (own := [("_law_k", 6)]) rfl sc_matter.nd rfl rfl (sw_true rfl rfl rfl (by decide +kernel)) (pi_range1 (by rfl) T.z_range (pa_cons (pv 2) pa_nil)) (blkOk_by (own := [("_law_k", 6)]) (N := ["_law_names", "_law_row", "_law_many", "_law_told", "_law_at", "_law_unlike", "_law_k"]) (sc := defScope s_matter) (scope := { kind := PySem.ScopeKind.function, names := [ (PySem.Str.ofString ".0", PySem.NameKind.local), (PySem.Str.ofString "_law_k", PySem.NameKind.local), (PySem.Str.ofString "_law_turned", PySem.NameKind.globalImplicit), (PySem.Str.ofString "_law_at", PySem.NameKind.free), (PySem.Str.ofString "_law_many", PySem.NameKind.free), (PySem.Str.ofString "_law_row", PySem.NameKind.free)], isGenerator := false, isCoroutine := false, more := [] : PySem.Scope }) (by decide +kernel)) (fun _ _ _ _ _ => (pg_name (i := 6) sc_matter.nd rfl (Or.inl rfl) (Or.inr rfl))) (fun _ _ _ _ _ => (pts_one (pt_cmpR (op_neDK (K := K) rfl hu64) (pe_ix (ix_seqK (K := K) rfl) (pv 1) (pe_call G_turned (hr.mono (by omega)) (by rfl) T.g_turned T.F_turned.kp T.b_turned .nil pass0 (pa_cons (pv 6) (pa_cons (pv 2) (pa_cons (pv 4) (pa_cons pe_bl pa_nil))))) (fun _ _ => rfl)) (pe_ix (ix_seqK (K := K) rfl) (pv 1) (pe_call G_turned (hr.mono (by omega)) (by rfl) T.g_turned T.F_turned.kp T.b_turned .nil pass0 (pa_cons (pv 6) (pa_cons (pv 2) (pa_cons (pv 4) (pa_cons pe_bl pa_nil))))) (fun _ _ => rfl)) (nomark _)))) (fun _ _ _ _ _ => (pv 6)))
  (pss_one (ps_if (pt_cmpR op_gtA (pe_callB (call_lenK (K := K) rfl) (by rfl) T.z_len (by decide +kernel) (pa_cons (pv 5) pa_nil)) pe_int (nomark _))
  (pss_one (ps_expr (pe_bmK (K := K) rfl PySem.F.plainAttrs_list PySem.F.slot_list_append PySem.F.type_list_append mt_append (pv 3) (pa_cons (pe_ix (ix_seqK (K := K) rfl) (pv 0) (pv 4) (fun _ _ => rfl)) pa_nil))))
  pss_nil))))
  (pss_one (ps_ret (pe_callTy (call_tuple_ofK (K := K) rfl) (by rfl) T.z_tuple (by decide +kernel) (pa_cons (pv 3) pa_nil))))))), ?_⟩
  obtain ⟨a1, x1, rfl, e1, da1⟩ := d1.list_inv
  have z1 := da1.strs_inv
  subst z1
  obtain ⟨a2, x2, rfl, e2, da2⟩ := d2.list_inv
  have z2 := da2.bls_inv
  subst z2
  have eH1 := sm _ _ e1
  have eH2 := sm _ _ e2
  have few := hn.few
  have pf : 2 ^ ns.length ≤ 2 ^ 12 := Nat.pow_le_pow_right (by decide) few
  have p12 : (2 : Nat) ^ 12 = 4096 := by decide
  have lr : (row.map V.bl).length = 2 ^ ns.length := by rw [List.length_map]; exact rp.len
  have ln : (ns.map V.str).length = ns.length := List.length_map _
  repeat walk_at "rd3"
  refine ⟨line_le (Nat.zero_le _), fun t nt => ?_⟩
  have E1 : Ex [] G H G (upd H t (.lst [])) := (Ex.refl sm).new nt
  have gt : G t = none := sm.free nt
  have eH1' := E1.same _ _ eH1
  repeat walk_at "rd3"
  rw [lr]
  refine for_range (lo := 0) (n := ((ns.map V.str).length : Int).toNat) (fun i σ H' => ∃ (G' : Hp) (y z u : Option V), σ = [some (.ref a1), some (.ref a2), some (.int (2 ^ ns.length : Nat)), some (.ref t), y, z, u] ∧ Ex [] G H G' H' ∧ G' t = none ∧
      H' t = some (.lst (((ns.take i).filter fun s => decide (s ∈ c.vars)).map V.str)))
    ⟨G, none, none, none, rfl, E1, gt, upd_same⟩ (fun i σ H' hi hp => ?_) (fun σ H' hp => ?_)
  · obtain ⟨G', y, z, u, rfl, E2, g2, ht⟩ := hp
    have hi2 : i < ns.length := by omega
    have hz : ns[i]? = some ns[i] := List.getElem?_eq_getElem hi2
    generalize ns[i] = zz at hz
    have eHa := E2.same _ _ eH1
    have eHb := E2.same _ _ eH2
    have nta : t ≠ a1 := fun k => by rw [k, eH1] at nt; cases nt
    repeat walk_at "rd3"
    refine comp_goD (M := []) (fun k acc G' H' => (acc = [] ↔ ∀ j, j < k → c.ev (fset (asg ns j) zz true) = c.ev (fset (asg ns j) zz false))) walk_range E2.gh (line_lt (by omega)) (fun m hm => nomatch hm) (fun _ _ _ => trivial) ⟨fun _ j hj => absurd hj (Nat.not_lt_zero j), fun _ => rfl⟩ (fun i acc G' H' D o hp n1 n2 => hp) (fun i acc G' H' D o hp n1 n2 => hp)
        (fun k acc G4 H4 hk E4 hp C C' hC hC' => ?_) (fun G4 H4 D acc E4 dr hacc hp => ?_)
    · have hk2 : k < 2 ^ ns.length := by omega
      have eHc := E4.same _ _ eHb
      have k0 : (0 + (k : Int)) = (k : Int) := by omega
      have i0 : (0 + (i : Int)) = (i : Int) := by omega
      have wt : ∀ o, tn (2 ^ (ns.length - 1 - i)) k o < 2 ^ ns.length := fun o => tn_lt o (by omega) hk2
      have at_ : ∀ o, (row.map V.bl)[((tn (2 ^ (ns.length - 1 - i)) k o : Nat) : Int).toNat]? = some (.bl (c.ev (fset (asg ns k) zz o))) := fun o => by
        rw [Int.toNat_natCast, List.getElem?_map, rp.at_ _ (wt o), ev_tn hn.nd hz rp.oc]
        rfl
      refine ⟨rfl, ?_⟩
      repeat walk_at "rd3"
      refine ⟨k, ns.length, i, true, by rw [k0, i0]; rfl, hi2, by omega, hk2, ?_⟩
      refine ixL eHc (by omega) (at_ true) ?_
      repeat walk_at "rd3"
      refine ⟨k, ns.length, i, false, by rw [k0, i0]; rfl, hi2, by omega, hk2, ?_⟩
      refine ixL eHc (by omega) (at_ false) ?_
      repeat walk_at "rd3"
      refine ite2 (fun e => ?_) (fun e => ?_)
      · have e : ¬ c.ev (fset (asg ns k) zz true) = c.ev (fset (asg ns k) zz false) := by simpa using e
        repeat walk_at "rd3"
        refine hC _ G4 H4 (.int (0 + (k : Int))) (Ex.refl E4.gh) (.int _) ⟨fun h => ?_, fun h => absurd (h k (Nat.lt_succ_self k)) e⟩
        simp at h
      · have e : c.ev (fset (asg ns k) zz true) = c.ev (fset (asg ns k) zz false) := by simpa using e
        refine hC' G4 H4 (Ex.refl E4.gh) ?_
        rw [hp]
        refine ⟨fun h j hj => ?_, fun h j hj => h j (Nat.lt_succ_of_lt hj)⟩
        by_cases ej : j = k
        · rw [ej]; exact e
        · exact h j (by omega)
    · obtain ⟨b3, ws3, er, eb3, db3⟩ := dr.list_inv
      cases er
      have eHd := E4.gh _ _ eb3
      have l3 := db3.len
      have key : acc = [] ↔ zz ∉ c.vars := by
        rw [hp, ← mat_iff hn.nd rp.oc]
        constructor
        · intro h k hk; exact h k (by omega)
        · intro h k hk; exact h k (by omega)
      have ht4 := E4.at_ ht (fun z => nomatch z)
      have g4 := E4.out g2 ht
      have E5 := E2.trans E4
      have eHe := E5.same _ _ eH1
      have ft := filter_take (p := fun s => decide (s ∈ c.vars)) hz
      repeat walk_at "rd3"
      rw [l3]
      refine ite2 (fun e => ?_) (fun e => ?_)
      · have e : ¬ acc = [] := fun k => by rw [k] at e; exact absurd e (by decide)
        have e : zz ∈ c.vars := Classical.byContradiction fun k => e (key.mpr k)
        repeat walk_at "rd3"
        refine ixL (by assumption) (by omega) (v := .str zz) (by rw [show (0 + (i : Int)).toNat = i by omega, List.getElem?_map, hz]; rfl) ?_
        repeat walk_at "rd3"
        refine appL ht4 (line_lt (by have := List.length_filter_le (fun s => decide (s ∈ c.vars)) (ns.take i); rw [List.length_map]; rw [List.length_take] at this; omega)) ?_
        refine ⟨G4, _, _, _, rfl, E5.wr g4 (.inr nt), g4, ?_⟩
        rw [upd_same, ft, if_pos (decide_eq_true e), List.map_append]
        rfl
      · have e : acc = [] := Classical.byContradiction fun k => e (by
          have := List.length_pos_iff.mpr k
          exact decide_eq_true (by omega))
        have e := key.mp e
        refine ⟨G4, _, _, _, rfl, E5, g4, ?_⟩
        rw [ht4, ft, if_neg (by simpa using e), List.append_nil]
  · obtain ⟨G', y, z, u, rfl, E2, g2, ht⟩ := hp
    have e : ((ns.map V.str).length : Int).toNat = ns.length := by omega
    rw [e, List.take_length] at ht
    repeat walk_at "rd3"
    refine ⟨t, _, rfl, .inl ⟨SqL.of ht, fun r nr => ?_⟩⟩
    exact q _ _ _ (E2.dat nr) (Dat.newT (DatA.strs _) (E2.gh.free nr))
end
section
variable {P : Program} {w : World} {K : PySem.W.Frag} {mg : Str → Option Value} {base : Heap}
/-- a setting in another order, with more -/
def spMuddled (K : PySem.W.Frag) : Sp := fun vs H Q _ => ∃ (h : Addr) (v : V) (l : List Str) (G : Hp), vs = [.ref h, v] ∧ Same G H ∧ Hand G H h ∧ l.length ≤ 12 ∧ Dat G v (strsD l) ∧
  ∀ G' H' r es, Ex [h] G H G' H' → Hand G' H' h → (∀ s, s ∈ es ↔ s ∈ l ∨ s = "Q9") → SetAt G' r es → Q r H'
theorem ok_muddled (T : Tp K mg) : FnOk P w K mg base CX0 4 T.a_muddled T.d_muddled ["_law_hand_here", "_law_setting"] (spMuddled K) := by
  have G_take := ok_take (P := P) (w := w) (base := base) T
  have G_shuffled := ok_shuffled (P := P) (w := w) (base := base) T
  refine T.F_muddled.ok sc_muddled (fun vs H Q E h => ?_) (fun cdv A outer s H vs Q E hr h => ?_)
  · obtain ⟨_, _, _, _, rfl, _⟩ := h; rfl
  obtain ⟨h, v, l, G, rfl, sm, hd, few, d1, q⟩ := h
  have hu64 := hr.units
  refine ⟨_, (pss_cons (ps_set (i := 2) sc_muddled.nd rfl (Or.inl rfl) (pe_call G_shuffled (hr.mono (by omega)) (by rfl) T.g_shuffled T.F_shuffled.kp T.b_shuffled .nil pass0 (pa_cons (pv 0) (pa_cons (pe_op (op_addAK (K := K) rfl) (pe_op (op_addAK (K := K) rfl) (pe_callTy (call_listAK (K := K) rfl rfl) (by rfl) T.z_list (by decide +kernel) (pa_cons (pv 1) pa_nil)) (pe_callTy (call_listAK (K := K) rfl rfl) (by rfl) T.z_list (by decide +kernel) (pa_cons (pe_slice (sl_anyK (K := K) rfl) (pv 1) po_none (po_some (pe_call G_take (hr.mono (by omega)) (by rfl) T.g_take T.F_take.kp T.b_take .nil pass0 (pa_cons (pv 0) (pa_cons pe_int pa_nil))))) pa_nil))) (pe_lst (pa_cons pe_str pa_nil))) pa_nil))))
  (pss_cons (ps_if (pt_cmpR (op_eqDK (K := K) rfl hu64) (pe_call G_take (hr.mono (by omega)) (by rfl) T.g_take T.F_take.kp T.b_take .nil pass0 (pa_cons (pv 0) (pa_cons pe_int pa_nil))) pe_int (nomark _))
  (pss_one (ps_ret (pe_callTy (call_tuple_ofK (K := K) rfl) (by rfl) T.z_tuple (by decide +kernel) (pa_cons (pv 2) pa_nil))))
  pss_nil)
  (pss_one (ps_ret (pv 2))))), ?_⟩
  obtain ⟨a, x, rfl, ea, da⟩ := d1.list_inv
  have z := da.strs_inv
  subst z
  have eH := sm _ _ ea
  repeat walk_at "rd3"
  refine .inl ⟨a, _, rfl, .inl (SqL.of eH), fun p1 n1 => ?_⟩
  have E1 := (Ex.refl (M := [h]) sm).dat (o := .lst (l.map V.str)) n1
  have h1 : Hand _ _ h := hd.pure ((Ex.refl (M := []) sm).dat (o := .lst (l.map V.str)) n1)
  have aH1 : (upd H p1 (.lst (l.map V.str))) a = some (.lst (l.map V.str)) := by rw [upd_ne (ne_of_none eH n1)]; exact eH
  repeat walk_at "rd3"
  refine ⟨h, 2, _, rfl, E1.gh, h1, by omega, by omega, fun G2 H2 r E2 h2 r0 r1 => ?_⟩
  have nah : a ≠ h := fun k => by rw [k, hd.g] at ea; cases ea
  have aH2 := E2.at_ aH1 (by simpa using nah)
  repeat walk_at "rd3"
  refine slL aH2 fun p2 n2 => ?_
  have rc : cutV (l.map V.str) none (some r) = (l.take r.toNat).map V.str := by
    have e : r = ((r.toNat : Nat) : Int) := by omega
    conv => lhs; rw [e]
    rw [cut_to, List.map_take]
  rw [rc]
  have E3 := E2.dat (o := .lst ((l.take r.toNat).map V.str)) n2
  have h3 := h2.pure ((Ex.refl (M := []) E2.gh).dat (o := .lst ((l.take r.toNat).map V.str)) n2)
  repeat walk_at "rd3"
  refine .inl ⟨p2, _, rfl, .inl (SqL.of upd_same), fun p3 n3 => ?_⟩
  have E4 := E3.dat (o := .lst ((l.take r.toNat).map V.str)) n3
  have h4 := h3.pure ((Ex.refl (M := []) E3.gh).dat (o := .lst ((l.take r.toNat).map V.str)) n3)
  have np1h : p1 ≠ h := hd.dif n1
  have b1 := E4.at_ (q := p1) upd_same (by simpa using np1h)
  repeat walk_at "rd3"
  refine .inr (.inr (.inl ⟨p1, p3, _, _, rfl, rfl, b1, upd_same, line_le (by simp; omega), fun p4 n4 => ?_⟩))
  have E5 := E4.dat (o := .lst (l.map V.str ++ (l.take r.toNat).map V.str)) n4
  have h5 := h4.pure ((Ex.refl (M := []) E4.gh).dat (o := .lst (l.map V.str ++ (l.take r.toNat).map V.str)) n4)
  repeat walk_at "rd3"
  refine ⟨line_le (by show 1 ≤ _; decide), fun p5 n5 => ?_⟩
  have E6 := E5.dat (o := .lst [.str "Q9"]) n5
  have h6 := h5.pure ((Ex.refl (M := []) E5.gh).dat (o := .lst [.str "Q9"]) n5)
  have b4 : (upd (upd (upd (upd H2 p2 (.lst ((l.take r.toNat).map V.str))) p3 (.lst ((l.take r.toNat).map V.str))) p4 (.lst (l.map V.str ++ (l.take r.toNat).map V.str))) p5 (.lst [.str "Q9"])) p4 = some (.lst (l.map V.str ++ (l.take r.toNat).map V.str)) := by
    rw [upd_ne (ne_of_none (upd_same) n5), upd_same]
  repeat walk_at "rd3"
  refine .inr (.inr (.inl ⟨p4, p5, _, _, rfl, rfl, b4, upd_same, line_le (by simp; omega), fun p6 n6 => ?_⟩))
  have E7 := E6.dat (o := .lst (l.map V.str ++ (l.take r.toNat).map V.str ++ [.str "Q9"])) n6
  have h7 := h6.pure ((Ex.refl (M := []) E6.gh).dat (o := .lst (l.map V.str ++ (l.take r.toNat).map V.str ++ [.str "Q9"])) n6)
  have e7 : l.map V.str ++ (l.take r.toNat).map V.str ++ [.str "Q9"] = (l ++ l.take r.toNat ++ [Str.ofString "Q9"]).map V.str := by
    rw [List.map_append, List.map_append]; rfl
  rw [e7] at E7 h7 ⊢
  repeat walk_at "rd3"
  refine ⟨h, .ref p6, (l ++ l.take r.toNat ++ [Str.ofString "Q9"]).map PyData.str, _, rfl, E7.gh, h7, Dat.newL (DatA.strs _) (E6.gh.free n6), by simp; omega, fun G8 H8 r8 es' E8 h8 pm d8 => ?_⟩
  obtain ⟨es, rfl, pm2⟩ := perm_map_inv pm rfl
  have mem : ∀ s, s ∈ es ↔ s ∈ l ∨ s = "Q9" := fun s => by
    rw [pm2.mem_iff, List.mem_append, List.mem_append]
    constructor
    · rintro ((k | k) | k)
      · exact .inl k
      · exact .inl (List.mem_of_mem_take k)
      · exact .inr (by simpa using k)
    · rintro (k | k)
      · exact .inl (.inl k)
      · exact .inr (by simp [k])
  have E18 := (E1.trans E7).trans E8
  repeat walk_at "rd3"
  refine ⟨h, 2, _, rfl, E8.gh, h8, by omega, by omega, fun G9 H9 r9 E9 h9 _ _ => ?_⟩
  have E19 := E18.trans E9
  obtain ⟨b, y, rfl, eb, db⟩ := (d8.up E9.gg).list_inv
  have z2 := db.strs_inv
  subst z2
  have eHb := E9.gh _ _ eb
  repeat walk_at "rd3"
  refine ite2 (fun c => ?_) (fun c => ?_)
  · repeat walk_at "rd3"
    refine ⟨b, _, rfl, .inl ⟨SqL.of eHb, fun p7 n7 => ?_⟩⟩
    exact q _ _ _ es (E19.dat n7) (h9.pure ((Ex.refl (M := []) E9.gh).dat n7)) mem ⟨p7, rfl, .inr upd_same⟩
  · repeat walk_at "rd3"
    exact q _ _ _ es E19 h9 mem ⟨b, rfl, .inl eb⟩
end
section
variable {P : Program} {w : World} {K : PySem.W.Frag} {mg : Str → Option Value} {base : Heap}
/-- drawn names -/
def spNames (K : PySem.W.Frag) : Sp := fun vs H Q _ => ∃ (h : Addr) (n : Nat) (G : Hp), vs = [.ref h, .int n] ∧ Same G H ∧ Hand G H h ∧ n ≤ 5 ∧
  ∀ G' H' r ns, Ex [h] G H G' H' → Hand G' H' h → NS ns → ns.length = n → Str.ofString "Q9" ∉ ns → Dat G' r (strsD ns) → Q r H'
theorem ok_switch_names (T : Tp K mg) : FnOk P w K mg base CX0 3 T.a_switch_names T.d_switch_names ["_law_hand_here", "_law_many"] (spNames K) := by
  have G_take := ok_take (P := P) (w := w) (base := base) T
  refine T.F_switch_names.ok sc_switch_names (fun vs H Q E h => ?_) (fun cdv A outer s H vs Q E hr h => ?_)
  · obtain ⟨_, _, _, rfl, _⟩ := h; rfl
  obtain ⟨h, n, G, rfl, sm, hd, hn, q⟩ := h
  have hu64 := hr.units
  refine ⟨_, (pss_cons (ps_set (i := 2) sc_switch_names.nd rfl (Or.inl rfl) (pe_lst pa_nil))
  (pss_cons (ps_for PassesOwn.never rfl (pi_range1 (by rfl) T.z_range (pa_cons (pv 1) pa_nil)) (pg_name (i := 3) sc_switch_names.nd rfl (Or.inl rfl))
  (pss_cons (ps_set (i := 4) sc_switch_names.nd rfl (Or.inl rfl) (pe_call G_take (hr.mono (by omega)) (by rfl) T.g_take T.F_take.kp T.b_take .nil pass0 (pa_cons (pv 0) (pa_cons pe_int pa_nil))))
  (pss_one (ps_if (pt_cmpR (op_eqDK (K := K) rfl hu64) (pv 4) pe_int (nomark _))
  (pss_one (ps_expr (pe_bmK (K := K) rfl PySem.F.plainAttrs_list PySem.F.slot_list_append PySem.F.type_list_append mt_append (pv 2) (pa_cons (pe_op (op_addAK (K := K) rfl) pe_str (pe_callTy call_str_int (by rfl) T.z_str (by decide +kernel) (pa_cons (pe_op (op_addAK (K := K) rfl) (pv 3) pe_int) pa_nil))) pa_nil))))
  (pss_one (ps_if (pt_cmpR (op_eqDK (K := K) rfl hu64) (pv 4) pe_int (nomark _))
  (pss_one (ps_expr (pe_bmK (K := K) rfl PySem.F.plainAttrs_list PySem.F.slot_list_append PySem.F.type_list_append mt_append (pv 2) (pa_cons (pe_op (op_addAK (K := K) rfl) pe_str (pe_callTy call_str_int (by rfl) T.z_str (by decide +kernel) (pa_cons (pe_op (op_addAK (K := K) rfl) (pv 3) pe_int) pa_nil))) pa_nil))))
  (pss_cons (ps_setLc (i := 5) (own := [("_law_j", 6)]) rfl sc_switch_names.nd rfl rfl (sw_true rfl rfl rfl (by decide +kernel)) (pi_range1 (by rfl) T.z_range (pa_cons (pe_call G_take (hr.mono (by omega)) (by rfl) T.g_take T.F_take.kp T.b_take .nil pass0 (pa_cons (pv 0) (pa_cons pe_int pa_nil))) pa_nil)) (blkOk_by (own := [("_law_j", 6)]) (N := ["_law_hand_here", "_law_many", "_law_told", "_law_k", "_law_turn", "_law_middle", "_law_j"]) (sc := defScope s_switch_names) (scope := { kind := PySem.ScopeKind.function, names := [ (PySem.Str.ofString ".0", PySem.NameKind.local), (PySem.Str.ofString "_law_j", PySem.NameKind.local), (PySem.Str.ofString "_law_take", PySem.NameKind.globalImplicit), (PySem.Str.ofString "_law_hand_here", PySem.NameKind.free)], isGenerator := false, isCoroutine := false, more := [] : PySem.Scope }) (by decide +kernel)) (fun _ _ _ _ _ => (pg_name (i := 6) sc_switch_names.nd rfl (Or.inl rfl) (Or.inr rfl))) (fun _ _ _ _ _ => pts_nil) (fun _ _ _ _ _ => (pe_ix (ix_seqK (K := K) rfl) pe_str (pe_call G_take (hr.mono (by omega)) (by rfl) T.g_take T.F_take.kp T.b_take .nil pass0 (pa_cons (pv 0) (pa_cons pe_int pa_nil))) (fun _ _ => rfl))))
  (pss_one (ps_expr (pe_bmK (K := K) rfl PySem.F.plainAttrs_list PySem.F.slot_list_append PySem.F.type_list_append mt_append (pv 2) (pa_cons (pe_op (op_addAK (K := K) rfl) (pe_op (op_addAK (K := K) rfl) (pe_ix (ix_seqK (K := K) rfl) pe_str (pe_call G_take (hr.mono (by omega)) (by rfl) T.g_take T.F_take.kp T.b_take .nil pass0 (pa_cons (pv 0) (pa_cons pe_int pa_nil))) (fun _ _ => rfl)) (pe_joinK (K := K) rfl pe_str (pv 5))) (pe_callTy call_str_int (by rfl) T.z_str (by decide +kernel) (pa_cons (pv 3) pa_nil))) pa_nil)))))))))))
  (pss_one (ps_ret (pe_callB (cr_sortedSK (K := K) rfl) (by rfl) T.z_sorted (by decide +kernel) (pa_cons (pv 2) pa_nil)))))), ?_⟩
  repeat walk_at "rd3"
  refine ⟨line_le (Nat.zero_le _), fun t nt => ?_⟩
  have E1 : Ex [h] G H G (upd H t (.lst [])) := (Ex.refl sm).new nt
  have gt : G t = none := sm.free nt
  have th : t ≠ h := hd.dif nt
  have h1 : Hand G (upd H t (.lst [])) h := hd.wr th
  repeat walk_at "rd3"
  refine for_range (lo := 0) (n := ((n : Int)).toNat) (fun i σ H' => ∃ (G' : Hp) (x1 x2 x3 x4 : Option V) (ss : List Str), σ = [some (.ref h), some (.int n), some (.ref t), x1, x2, x3, x4] ∧ Ex [h] G H G' H' ∧ Hand G' H' h ∧ G' t = none ∧
      H' t = some (.lst (ss.map V.str)) ∧ ss.length = i ∧ ∀ j s, ss[j]? = some s → Tag j s)
    ⟨G, none, none, none, none, [], rfl, E1, h1, gt, upd_same, rfl, fun j s e => by simp at e⟩ (fun i σ H' hi hp => ?_) (fun σ H' hp => ?_)
  · obtain ⟨G', x1, x2, x3, x4, ss, rfl, E2, h2, g2, ht, hl, tg⟩ := hp
    have i5 : i < 5 := by omega
    have i0 : (0 + (i : Int)) = (i : Int) := by omega
    have i1 : (0 + (i : Int)) + 1 = ((i + 1 : Nat) : Int) := by omega
    have lg : ∀ k : Nat, k < 10 → ((k : Nat) : Int).natAbs.log2 < 1920 := fun k hk => by
      have e : ((k : Nat) : Int).natAbs = k := Int.natAbs_natCast k
      rw [e]
      have : k.log2 ≤ k := Nat.log2_le_self k
      omega
    have dlen : ∀ k : Nat, k < 10 → (Str.ofString (toString ((k : Nat) : Int))).length = 1 := fun k hk => by
      have e := digit k hk
      show (Str.ofString (toString ((k : Nat) : Int))).cps.size = 1
      rw [← Array.length_toList]
      exact (congrArg List.length e)
    -- a further name
    have more : ∀ (z : Str) (G5 H5 : Hp), Tag i z → Ex [h] G H G5 H5 → Hand G5 H5 h → H5 t = some (.lst (ss.map V.str)) → G5 t = none → Ex [h] G H G5 (upd H5 t (.lst (ss.map V.str ++ [.str z]))) ∧ Hand G5 (upd H5 t (.lst (ss.map V.str ++ [.str z]))) h ∧ G5 t = none ∧
        (upd H5 t (.lst (ss.map V.str ++ [.str z]))) t = some (.lst ((ss ++ [z]).map V.str)) ∧ (ss ++ [z]).length = i + 1 ∧ ∀ j s, (ss ++ [z])[j]? = some s → Tag j s := fun z G5 H5 tz E5 h5 ht5 g5 => by
      refine ⟨E5.wr g5 (.inr nt), h5.wr th, g5, ?_, ?_, fun j s e => ?_⟩
      · rw [upd_same, List.map_append]; rfl
      · rw [List.length_append, hl]; rfl
      · by_cases hj : j < ss.length
        · rw [List.getElem?_append_left hj] at e
          exact tg j s e
        · rw [List.getElem?_append_right (by omega)] at e
          have hj2 : j = ss.length := by
            have := (List.getElem?_eq_some_iff.mp e).1
            simp at this
            omega
          subst hj2
          rw [Nat.sub_self] at e
          have e : z = s := Option.some.inj e
          rw [← e, hl]
          exact tz
    repeat walk_at "rd3"
    refine ⟨h, 4, G', rfl, E2.gh, h2, by omega, by omega, fun G3 H3 r E3 h3 r0 r1 => ?_⟩
    have ht3 := E3.at_ ht (by simpa using th)
    have g3 := E3.out g2 ht
    have E23 := E2.trans E3
    have szs : (ss.map V.str).length < sizeLine := by rw [List.length_map]; exact line_lt (by omega)
    repeat walk_at "rd3"
    refine ite2 (fun c => ?_) (fun c => ?_)
    · repeat walk_at "rd3"
      rw [i1]
      refine ⟨lg (i + 1) (by omega), .inr (.inl ⟨_, _, rfl, rfl, by rw [dlen (i + 1) (by omega)]; exact line_le (by decide), ?_⟩)⟩
      repeat walk_at "rd3"
      refine appL ht3 szs ?_
      have tz : Tag i (Str.ofString "m" ++ Str.ofString (toString ((i + 1 : Nat) : Int))) := .inl (by
        rw [cl_append, digit (i + 1) (by omega)]
        show [109] ++ _ = _
        rw [show 48 + (i + 1) = 49 + i by omega]
        rfl)
      obtain ⟨b1, b2, b3, b4, b5, b6⟩ := more _ _ _ tz E23 h3 ht3 g3
      exact ⟨G3, _, _, _, _, _, rfl, b1, b2, b3, b4, b5, b6⟩
    · repeat walk_at "rd3"
      refine ite2 (fun c2 => ?_) (fun c2 => ?_)
      · repeat walk_at "rd3"
        rw [i1]
        refine ⟨lg (i + 1) (by omega), .inr (.inl ⟨_, _, rfl, rfl, by rw [dlen (i + 1) (by omega)]; exact line_le (by decide), ?_⟩)⟩
        repeat walk_at "rd3"
        refine appL ht3 szs ?_
        have tz : Tag i (Str.ofString "e" ++ Str.ofString (toString ((i + 1 : Nat) : Int))) := .inr (.inl (by
          rw [cl_append, digit (i + 1) (by omega)]
          show [101] ++ _ = _
          rw [show 48 + (i + 1) = 49 + i by omega]
          rfl))
        obtain ⟨b1, b2, b3, b4, b5, b6⟩ := more _ _ _ tz E23 h3 ht3 g3
        exact ⟨G3, _, _, _, _, _, rfl, b1, b2, b3, b4, b5, b6⟩
      · repeat walk_at "rd3"
        refine ⟨h, 7, G3, rfl, E3.gh, h3, by omega, by omega, fun G4 H4 m E4 h4 m0 m1 => ?_⟩
        repeat walk_at "rd3"
        refine comp_goD (M := [h]) (fun k acc G' H' => Hand G' H' h ∧ ∃ ms : List Nat, acc = ms.map (fun x => PyData.str ⟨#[x]⟩) ∧ ms.length = k ∧ ∀ x ∈ ms, 97 ≤ x ∧ x ≤ 122)
          walk_range E4.gh (line_lt (by omega)) (fun m hm => ?_) (fun _ _ _ => trivial) ⟨h4, [], rfl, rfl, fun x hx => nomatch hx⟩ (fun i acc G' H' D o hp n1 n2 => ⟨hp.1.wr (h4.dif n1), hp.2⟩) (fun i acc G' H' D o hp n1 n2 => ⟨hp.1.gr (h4.dif n1) n2, hp.2⟩) (fun k acc G5 H5 hk E5 hp C C' hC hC' => ?_) (fun G5 H5 D acc E5 dr hacc hp => ?_)
        · have e : m = h := by simpa using hm
          rw [e]; exact h4.ne
        · obtain ⟨k1, ms, rfl, k2, k3⟩ := hp
          refine ⟨rfl, lcYes ?_⟩
          repeat walk_at "rd3"
          refine ⟨h, 26, G5, rfl, E5.gh, k1, by omega, by omega, fun G6 H6 r6 E6 h6 r60 r61 => ?_⟩
          refine ixS (line_le (by decide +kernel)) r60 (low_at r6.toNat (by omega)) ?_
          refine hC _ G6 H6 (.str ⟨#[97 + r6.toNat]⟩) E6 (.str _) ⟨h6, ms ++ [97 + r6.toNat], by rw [List.map_append]; rfl, by rw [List.length_append, k2]; rfl, fun x hx => ?_⟩
          rcases List.mem_append.mp hx with hx | hx
          · exact k3 x hx
          · have e : x = 97 + r6.toNat := by simpa using hx
            omega
        · obtain ⟨k1, ms, rfl, k2, k3⟩ := hp
          obtain ⟨b, ws, er, eb, db⟩ := dr.list_inv
          cases er
          have zz : ws = (ms.map fun x => (⟨#[x]⟩ : Str)).map V.str := by
            have k : DatA G5 ws ((ms.map fun x => (⟨#[x]⟩ : Str)).map PyData.str) := by rw [List.map_map]; exact db
            exact k.strs_inv
          subst zz
          have E25 := (E23.trans E4).trans E5
          have ht5 := E5.at_ (E4.at_ ht3 (by simpa using th)) (by simpa using th)
          have g5 := E5.out (E4.out g3 ht3) (E4.at_ ht3 (by simpa using th))
          repeat walk_at "rd3"
          refine ⟨h, 26, G5, rfl, E5.gh, k1, by omega, by omega, fun G6 H6 r6 E6 h6 r60 r61 => ?_⟩
          have ht6 := E6.at_ ht5 (by simpa using th)
          have g6 := E6.out g5 ht5
          have eHd := E6.gh _ _ (E6.gg _ _ eb)
          repeat walk_at "rd3"
          refine ixS (line_le (by decide +kernel)) r60 (up_at r6.toNat (by omega)) ?_
          repeat walk_at "rd3"
          refine ⟨⟨_, rfl⟩, ?_⟩
          repeat walk_at "rd3"
          refine ⟨_, D, ms.map fun x => (⟨#[x]⟩ : Str), rfl, rfl, .inl (SqL.of eHd), ?_, ?_⟩
          · rw [sum_one, show (Str.ofString "").length = 0 from rfl]
            omega
          have je : cl (Txt.join (Str.ofString "") (ms.map fun x => (⟨#[x]⟩ : Str))) = ms := by
            rw [cl_join rfl, flat_one _ ms (by rw [List.map_map]; rfl)]
          have jl : (Txt.join (Str.ofString "") (ms.map fun x => (⟨#[x]⟩ : Str))).length = ms.length := by
            show (Txt.join (Str.ofString "") (ms.map fun x => (⟨#[x]⟩ : Str))).cps.size = _
            rw [← Array.length_toList]
            exact congrArg List.length je
          repeat walk_at "rd3"
          refine .inr (.inl ⟨_, _, rfl, rfl, by rw [jl]; exact line_le (by show 1 + ms.length ≤ _; omega), ?_⟩)
          repeat walk_at "rd3"
          rw [i0]
          have l1 : ((⟨#[65 + r6.toNat]⟩ : Str) ++ Txt.join (Str.ofString "") (ms.map fun x => (⟨#[x]⟩ : Str))).length = 1 + ms.length := by
            show (_ ++ _ : Array Nat).size = _
            rw [Array.size_append]
            exact congrArg (1 + ·) jl
          refine ⟨lg i (by omega), .inr (.inl ⟨_, _, rfl, rfl, by rw [l1, dlen i (by omega)]; exact line_le (by omega), ?_⟩)⟩
          repeat walk_at "rd3"
          refine appL ht6 szs ?_
          have tz : Tag i ((⟨#[65 + r6.toNat]⟩ : Str) ++ Txt.join (Str.ofString "") (ms.map fun x => (⟨#[x]⟩ : Str)) ++ Str.ofString (toString ((i : Nat) : Int))) := .inr (.inr ⟨65 + r6.toNat, ms, by
            rw [cl_append, cl_append, digit i (by omega), je]
            show [65 + r6.toNat] ++ ms ++ _ = _
            rfl, by omega, by omega, k3, by omega⟩)
          obtain ⟨b1, b2, b3, b4, b5, b6⟩ := more _ _ _ tz (E25.trans E6) h6 ht6 g6
          exact ⟨G6, _, _, _, _, _, rfl, b1, b2, b3, b4, b5, b6⟩
  · obtain ⟨G', x1, x2, x3, x4, ss, rfl, E2, h2, g2, ht, hl, tg⟩ := hp
    have hl : ss.length = n := by omega
    have nds : ss.Nodup := tag_nodup 0 tg
    repeat walk_at "rd3"
    refine ⟨t, ss, rfl, SqL.of ht, by omega, fun ys p pm srt np => ?_⟩
    have hys := sorted_strict srt pm nds
    have mem : ∀ s ∈ ys, ∃ j, j < 5 ∧ Tag j s := fun s hs => by
      obtain ⟨j, hj⟩ := List.getElem?_of_mem (pm.mem_iff.mp hs)
      exact ⟨j, by have := (List.getElem?_eq_some_iff.mp hj).1; omega, tg j s hj⟩
    refine q _ _ _ ys (E2.dat np) (h2.pure ((Ex.refl (M := []) E2.gh).dat np)) ⟨hys, fun s hs => ?_, by rw [pm.length_eq]; omega⟩ (by rw [pm.length_eq]; exact hl) (fun m => ?_) (Dat.newL (DatA.strs ys) (E2.gh.free np))
    · obtain ⟨j, hj, tj⟩ := mem s hs
      exact tj.ok (by omega)
    · obtain ⟨j, hj, tj⟩ := mem _ m
      exact Tag.q9 (by omega) tj
end
section
variable {P : Program} {w : World} {K : PySem.W.Frag} {mg : Str → Option Value} {base : Heap}
/-- the conditions so far and their rows -/
structure Pool (G H : Hp) (ns : List Str) (pp pr : Addr) (cs : List C) (rows : List (List Bool)) : Prop where
  p : ∃ vs, H pp = some (.lst vs) ∧ DatA G vs (cs.map C.enc)
  r : ∃ ws, H pr = some (.lst ws) ∧ DatA G ws (rows.map rowD)
  len : cs.length = rows.length
  lo : 2 ≤ cs.length
  hi : cs.length ≤ 100
  rep : ∀ (i : Nat) (c : C) (row : List Bool), cs[i]? = some c → rows[i]? = some row → Rep ns c row
theorem Pool.up {M : List Addr} {G H G' H' : Hp} {ns : List Str} {pp pr : Addr} {cs : List C} {rows : List (List Bool)} (a : Pool G H ns pp pr cs rows) (E : Ex M G H G' H') (h1 : pp ∉ M) (h2 : pr ∉ M) : Pool G' H' ns pp pr cs rows := by
  obtain ⟨vs, e1, d1⟩ := a.p
  obtain ⟨ws, e2, d2⟩ := a.r
  exact ⟨⟨vs, E.at_ e1 h1, d1.up E.gg⟩, ⟨ws, E.at_ e2 h2, d2.up E.gg⟩, a.len, a.lo, a.hi, a.rep⟩
theorem Pool.get {G H : Hp} {ns : List Str} {pp pr : Addr} {cs : List C} {rows : List (List Bool)} (a : Pool G H ns pp pr cs rows) {i : Int} (h0 : 0 ≤ i) (h1 : i < cs.length) :
    ∃ c row vs ws u x, Rep ns c row ∧ H pp = some (.lst vs) ∧ vs[i.toNat]? = some u ∧ Dat G u c.enc ∧ H pr = some (.lst ws) ∧ ws[i.toNat]? = some (.ref x) ∧ G x = some (.lst (row.map V.bl)) := by
  obtain ⟨vs, e1, d1⟩ := a.p
  obtain ⟨ws, e2, d2⟩ := a.r
  have hc : i.toNat < cs.length := by omega
  have hr : i.toNat < rows.length := by rw [← a.len]; exact hc
  obtain ⟨u, g1, k1⟩ := d1.get (i := i.toNat) (d := cs[i.toNat].enc) (by rw [List.getElem?_map, List.getElem?_eq_getElem hc]; rfl)
  obtain ⟨y, g2, k2⟩ := d2.get (i := i.toNat) (d := rowD rows[i.toNat]) (by rw [List.getElem?_map, List.getElem?_eq_getElem hr]; rfl)
  obtain ⟨x, xs, rfl, ex, dx⟩ := k2.list_inv
  have z := dx.bls_inv
  subst z
  exact ⟨_, _, vs, ws, u, x, a.rep _ _ _ (List.getElem?_eq_getElem hc) (List.getElem?_eq_getElem hr), e1, g1, k1, e2, g2, ex⟩
def spStepped (K : PySem.W.Frag) : Sp := fun vs H Q _ => ∃ (h : Addr) (vn : V) (pp pr : Addr) (ns : List Str) (cs : List C) (rows : List (List Bool)) (G : Hp), vs = [.ref h, vn, .ref pp, .ref pr] ∧ Same G H ∧ Hand G H h ∧ NS ns ∧ 1 ≤ ns.length ∧ ns.length ≤ 5 ∧ Dat G vn (strsD ns) ∧ Pool G H ns pp pr cs rows ∧ pp ≠ h ∧ pr ≠ h ∧
  ∀ G' H' p vc vr c row, Ex [h] G H G' H' → Hand G' H' h → Rep ns c row → G' p = some (.tup [vc, vr]) → Dat G' vc c.enc → Dat G' vr (rowD row) → Q (.ref p) H'
theorem ok_stepped (T : Tp K mg) : FnOk P w K mg base CX0 20 T.a_stepped T.d_stepped ["_law_hand_here", "_law_names", "_law_pool", "_law_rows"] (spStepped K) := by
  have G_take := ok_take (P := P) (w := w) (base := base) T
  have G_no := ok_no (P := P) (w := w) (base := base) T 13
  have G_both := ok_both (P := P) (w := w) (base := base) T 13
  have G_either := ok_either (P := P) (w := w) (base := base) T 13
  have G_but_not := ok_but_not (P := P) (w := w) (base := base) T 13
  have G_switched := ok_switched (P := P) (w := w) (base := base) T 13
  have G_fixed := ok_fixed (P := P) (w := w) (base := base) T 13
  have G_turned := ok_turned (P := P) (w := w) (base := base) T
  have G_bits := ok_bits (P := P) (w := w) (base := base) T
  have G_form := ok_form (P := P) (w := w) (base := base) T 13
  refine T.F_stepped.ok sc_stepped (fun vs H Q E h => ?_) (fun cdv A outer s H vs Q E hr h => ?_)
  · obtain ⟨_, _, _, _, _, _, _, _, rfl, _⟩ := h; rfl
  obtain ⟨h, vn, pp, pr, ns, cs, rows, G, rfl, sm, hd, hn, n1, n5, dn, po, nph, nrh, q⟩ := h
  have hu64 := hr.units
  refine ⟨_, (pss_cons (ps_set (i := 4) sc_stepped.nd rfl (Or.inr rfl) (pe_callB (call_lenK (K := K) rfl) (by rfl) T.z_len (by decide +kernel) (pa_cons (pe_ix (ix_seqK (K := K) rfl) (pv 3) pe_int (fun _ _ => rfl)) pa_nil)))
  (pss_cons (ps_set (i := 5) sc_stepped.nd rfl (Or.inl rfl) (pe_call G_take (hr.mono (by omega)) (by rfl) T.g_take T.F_take.kp T.b_take .nil pass0 (pa_cons (pv 0) (pa_cons pe_int pa_nil))))
  (pss_cons (ps_set (i := 6) sc_stepped.nd rfl (Or.inl rfl) (pe_call G_take (hr.mono (by omega)) (by rfl) T.g_take T.F_take.kp T.b_take .nil pass0 (pa_cons (pv 0) (pa_cons (pe_callB (call_lenK (K := K) rfl) (by rfl) T.z_len (by decide +kernel) (pa_cons (pv 2) pa_nil)) pa_nil))))
  (pss_cons (ps_set (i := 7) sc_stepped.nd rfl (Or.inl rfl) (pe_call G_take (hr.mono (by omega)) (by rfl) T.g_take T.F_take.kp T.b_take .nil pass0 (pa_cons (pv 0) (pa_cons (pe_callB (call_lenK (K := K) rfl) (by rfl) T.z_len (by decide +kernel) (pa_cons (pv 2) pa_nil)) pa_nil))))
  (pss_cons (ps_set (i := 8) sc_stepped.nd rfl (Or.inr rfl) (pe_call G_take (hr.mono (by omega)) (by rfl) T.g_take T.F_take.kp T.b_take .nil pass0 (pa_cons (pv 0) (pa_cons (pe_callB (call_lenK (K := K) rfl) (by rfl) T.z_len (by decide +kernel) (pa_cons (pv 1) pa_nil)) pa_nil))))
  (pss_cons (ps_set (i := 9) sc_stepped.nd rfl (Or.inr rfl) (pe_cmpR (op_eqDK (K := K) rfl hu64) (pe_call G_take (hr.mono (by omega)) (by rfl) T.g_take T.F_take.kp T.b_take .nil pass0 (pa_cons (pv 0) (pa_cons pe_int pa_nil))) pe_int (nomark _)))
  (pss_cons (ps_set (i := 10) sc_stepped.nd rfl (Or.inr rfl) (pe_ix (ix_seqK (K := K) rfl) (pv 3) (pv 6) (fun _ _ => rfl)))
  (pss_cons (ps_set (i := 11) sc_stepped.nd rfl (Or.inr rfl) (pe_ix (ix_seqK (K := K) rfl) (pv 3) (pv 7) (fun _ _ => rfl)))
  (pss_cons (ps_if (pt_cmpR (op_eqDK (K := K) rfl hu64) (pv 5) pe_int (nomark _))
  (pss_one (ps_ret (pe_tup (pa_cons (pe_call G_no (hr.mono (by omega)) (by rfl) T.g_no T.F_no.kp T.b_no .nil pass0 (pa_cons (pe_ix (ix_seqK (K := K) rfl) (pv 2) (pv 6) (fun _ _ => rfl)) pa_nil)) (pa_cons (pe_lc (own := [("_law_k", 12)]) rfl sc_stepped.nd (pi_range1 (by rfl) T.z_range (pa_cons (pv 4) pa_nil)) (blkOk_by (own := [("_law_k", 12)]) (N := ["_law_hand_here", "_law_names", "_law_pool", "_law_rows", "_law_many", "_law_turn", "_law_i", "_law_j", "_law_at", "_law_on", "_law_one", "_law_two", "_law_k", "_law_row"]) (sc := defScope s_stepped) (scope := { kind := PySem.ScopeKind.function, names := [ (PySem.Str.ofString ".0", PySem.NameKind.local), (PySem.Str.ofString "_law_k", PySem.NameKind.local), (PySem.Str.ofString "_law_one", PySem.NameKind.free)], isGenerator := false, isCoroutine := false, more := [] : PySem.Scope }) (by decide +kernel)) (fun _ _ _ _ _ => (pg_name (i := 12) sc_stepped.nd rfl (Or.inl rfl) (Or.inr rfl))) (fun _ _ _ _ _ => pts_nil) (fun _ _ _ _ _ => (pe_notTK (K := K) rfl (pe_ix (ix_seqK (K := K) rfl) (pv 10) (pv 12) (fun _ _ => rfl))))) pa_nil)))))
  pss_nil)
  (pss_cons (ps_if (PW.pt (pw_or (pt_cmpR (op_eqDK (K := K) rfl hu64) (pv 5) pe_int (nomark _)) (pw_or1 (pt_cmpR (op_eqDK (K := K) rfl hu64) (pv 5) pe_int (nomark _)))))
  (pss_one (ps_ret (pe_tup (pa_cons (pe_call G_both (hr.mono (by omega)) (by rfl) T.g_both T.F_both.kp T.b_both .nil pass0 (pa_cons (pe_ix (ix_seqK (K := K) rfl) (pv 2) (pv 6) (fun _ _ => rfl)) (pa_cons (pe_ix (ix_seqK (K := K) rfl) (pv 2) (pv 7) (fun _ _ => rfl)) pa_nil))) (pa_cons (pe_lc (own := [("_law_k", 12)]) rfl sc_stepped.nd (pi_range1 (by rfl) T.z_range (pa_cons (pv 4) pa_nil)) (blkOk_by (own := [("_law_k", 12)]) (N := ["_law_hand_here", "_law_names", "_law_pool", "_law_rows", "_law_many", "_law_turn", "_law_i", "_law_j", "_law_at", "_law_on", "_law_one", "_law_two", "_law_k", "_law_row"]) (sc := defScope s_stepped) (scope := { kind := PySem.ScopeKind.function, names := [ (PySem.Str.ofString ".0", PySem.NameKind.local), (PySem.Str.ofString "_law_k", PySem.NameKind.local), (PySem.Str.ofString "_law_one", PySem.NameKind.free), (PySem.Str.ofString "_law_two", PySem.NameKind.free)], isGenerator := false, isCoroutine := false, more := [] : PySem.Scope }) (by decide +kernel)) (fun _ _ _ _ _ => (pg_name (i := 12) sc_stepped.nd rfl (Or.inl rfl) (Or.inr rfl))) (fun _ _ _ _ _ => pts_nil) (fun _ _ _ _ _ => (pe_and (pe_ix (ix_seqK (K := K) rfl) (pv 10) (pv 12) (fun _ _ => rfl)) (pe_one (pe_ix (ix_seqK (K := K) rfl) (pv 11) (pv 12) (fun _ _ => rfl)))))) pa_nil)))))
  pss_nil)
  (pss_cons (ps_if (pt_cmpR (op_eqDK (K := K) rfl hu64) (pv 5) pe_int (nomark _))
  (pss_one (ps_ret (pe_tup (pa_cons (pe_call G_either (hr.mono (by omega)) (by rfl) T.g_either T.F_either.kp T.b_either .nil pass0 (pa_cons (pe_ix (ix_seqK (K := K) rfl) (pv 2) (pv 6) (fun _ _ => rfl)) (pa_cons (pe_ix (ix_seqK (K := K) rfl) (pv 2) (pv 7) (fun _ _ => rfl)) pa_nil))) (pa_cons (pe_lc (own := [("_law_k", 12)]) rfl sc_stepped.nd (pi_range1 (by rfl) T.z_range (pa_cons (pv 4) pa_nil)) (blkOk_by (own := [("_law_k", 12)]) (N := ["_law_hand_here", "_law_names", "_law_pool", "_law_rows", "_law_many", "_law_turn", "_law_i", "_law_j", "_law_at", "_law_on", "_law_one", "_law_two", "_law_k", "_law_row"]) (sc := defScope s_stepped) (scope := { kind := PySem.ScopeKind.function, names := [ (PySem.Str.ofString ".0", PySem.NameKind.local), (PySem.Str.ofString "_law_k", PySem.NameKind.local), (PySem.Str.ofString "_law_one", PySem.NameKind.free), (PySem.Str.ofString "_law_two", PySem.NameKind.free)], isGenerator := false, isCoroutine := false, more := [] : PySem.Scope }) (by decide +kernel)) (fun _ _ _ _ _ => (pg_name (i := 12) sc_stepped.nd rfl (Or.inl rfl) (Or.inr rfl))) (fun _ _ _ _ _ => pts_nil) (fun _ _ _ _ _ => (pe_or (pe_ix (ix_seqK (K := K) rfl) (pv 10) (pv 12) (fun _ _ => rfl)) (pe_one (pe_ix (ix_seqK (K := K) rfl) (pv 11) (pv 12) (fun _ _ => rfl)))))) pa_nil)))))
  pss_nil)
  (pss_cons (ps_if (pt_cmpR (op_eqDK (K := K) rfl hu64) (pv 5) pe_int (nomark _))
  (pss_one (ps_ret (pe_tup (pa_cons (pe_call G_but_not (hr.mono (by omega)) (by rfl) T.g_but_not T.F_but_not.kp T.b_but_not .nil pass0 (pa_cons (pe_ix (ix_seqK (K := K) rfl) (pv 2) (pv 6) (fun _ _ => rfl)) (pa_cons (pe_ix (ix_seqK (K := K) rfl) (pv 2) (pv 7) (fun _ _ => rfl)) pa_nil))) (pa_cons (pe_lc (own := [("_law_k", 12)]) rfl sc_stepped.nd (pi_range1 (by rfl) T.z_range (pa_cons (pv 4) pa_nil)) (blkOk_by (own := [("_law_k", 12)]) (N := ["_law_hand_here", "_law_names", "_law_pool", "_law_rows", "_law_many", "_law_turn", "_law_i", "_law_j", "_law_at", "_law_on", "_law_one", "_law_two", "_law_k", "_law_row"]) (sc := defScope s_stepped) (scope := { kind := PySem.ScopeKind.function, names := [ (PySem.Str.ofString ".0", PySem.NameKind.local), (PySem.Str.ofString "_law_k", PySem.NameKind.local), (PySem.Str.ofString "_law_one", PySem.NameKind.free), (PySem.Str.ofString "_law_two", PySem.NameKind.free)], isGenerator := false, isCoroutine := false, more := [] : PySem.Scope }) (by decide +kernel)) (fun _ _ _ _ _ => (pg_name (i := 12) sc_stepped.nd rfl (Or.inl rfl) (Or.inr rfl))) (fun _ _ _ _ _ => pts_nil) (fun _ _ _ _ _ => (pe_and (pe_ix (ix_seqK (K := K) rfl) (pv 10) (pv 12) (fun _ _ => rfl)) (pe_one (pe_notTK (K := K) rfl (pe_ix (ix_seqK (K := K) rfl) (pv 11) (pv 12) (fun _ _ => rfl))))))) pa_nil)))))
  pss_nil)
  (pss_cons (ps_if (pt_cmpR (op_eqDK (K := K) rfl hu64) (pv 5) pe_int (nomark _))
  (pss_cons (ps_setLc (i := 13) (own := [("_law_k", 12)]) rfl sc_stepped.nd rfl rfl (sw_true rfl rfl rfl (by decide +kernel)) (pi_range1 (by rfl) T.z_range (pa_cons (pv 4) pa_nil)) (blkOk_by (own := [("_law_k", 12)]) (N := ["_law_hand_here", "_law_names", "_law_pool", "_law_rows", "_law_many", "_law_turn", "_law_i", "_law_j", "_law_at", "_law_on", "_law_one", "_law_two", "_law_k", "_law_row"]) (sc := defScope s_stepped) (scope := { kind := PySem.ScopeKind.function, names := [ (PySem.Str.ofString ".0", PySem.NameKind.local), (PySem.Str.ofString "_law_k", PySem.NameKind.local), (PySem.Str.ofString "_law_turned", PySem.NameKind.globalImplicit), (PySem.Str.ofString "_law_at", PySem.NameKind.free), (PySem.Str.ofString "_law_many", PySem.NameKind.free), (PySem.Str.ofString "_law_one", PySem.NameKind.free), (PySem.Str.ofString "_law_two", PySem.NameKind.free)], isGenerator := false, isCoroutine := false, more := [] : PySem.Scope }) (by decide +kernel)) (fun _ _ _ _ _ => (pg_name (i := 12) sc_stepped.nd rfl (Or.inl rfl) (Or.inr rfl))) (fun _ _ _ _ _ => pts_nil) (fun _ _ _ _ _ => (pe_ifExp (pt_cmpR (op_eqDK (K := K) rfl hu64) (pe_call G_turned (hr.mono (by omega)) (by rfl) T.g_turned T.F_turned.kp T.b_turned .nil pass0 (pa_cons (pv 12) (pa_cons (pv 4) (pa_cons (pv 8) (pa_cons pe_bl pa_nil))))) (pv 12) (nomark _)) (pe_ix (ix_seqK (K := K) rfl) (pv 10) (pv 12) (fun _ _ => rfl)) (pe_ix (ix_seqK (K := K) rfl) (pv 11) (pv 12) (fun _ _ => rfl)))))
  (pss_one (ps_ret (pe_tup (pa_cons (pe_call G_switched (hr.mono (by omega)) (by rfl) T.g_switched T.F_switched.kp T.b_switched .nil pass0 (pa_cons (pe_ix (ix_seqK (K := K) rfl) (pv 1) (pv 8) (fun _ _ => rfl)) (pa_cons (pe_ix (ix_seqK (K := K) rfl) (pv 2) (pv 6) (fun _ _ => rfl)) (pa_cons (pe_ix (ix_seqK (K := K) rfl) (pv 2) (pv 7) (fun _ _ => rfl)) pa_nil)))) (pa_cons (pv 13) pa_nil))))))
  pss_nil)
  (pss_cons (ps_if (pt_cmpR (op_eqDK (K := K) rfl hu64) (pv 5) pe_int (nomark _))
  (pss_one (ps_ret (pe_tup (pa_cons (pe_call G_fixed (hr.mono (by omega)) (by rfl) T.g_fixed T.F_fixed.kp T.b_fixed .nil pass0 (pa_cons (pe_ix (ix_seqK (K := K) rfl) (pv 2) (pv 6) (fun _ _ => rfl)) (pa_cons (pe_ix (ix_seqK (K := K) rfl) (pv 1) (pv 8) (fun _ _ => rfl)) (pa_cons (pv 9) pa_nil)))) (pa_cons (pe_lc (own := [("_law_k", 12)]) rfl sc_stepped.nd (pi_range1 (by rfl) T.z_range (pa_cons (pv 4) pa_nil)) (blkOk_by (own := [("_law_k", 12)]) (N := ["_law_hand_here", "_law_names", "_law_pool", "_law_rows", "_law_many", "_law_turn", "_law_i", "_law_j", "_law_at", "_law_on", "_law_one", "_law_two", "_law_k", "_law_row"]) (sc := defScope s_stepped) (scope := { kind := PySem.ScopeKind.function, names := [ (PySem.Str.ofString ".0", PySem.NameKind.local), (PySem.Str.ofString "_law_k", PySem.NameKind.local), (PySem.Str.ofString "_law_turned", PySem.NameKind.globalImplicit), (PySem.Str.ofString "_law_at", PySem.NameKind.free), (PySem.Str.ofString "_law_many", PySem.NameKind.free), (PySem.Str.ofString "_law_on", PySem.NameKind.free), (PySem.Str.ofString "_law_one", PySem.NameKind.free)], isGenerator := false, isCoroutine := false, more := [] : PySem.Scope }) (by decide +kernel)) (fun _ _ _ _ _ => (pg_name (i := 12) sc_stepped.nd rfl (Or.inl rfl) (Or.inr rfl))) (fun _ _ _ _ _ => pts_nil) (fun _ _ _ _ _ => (pe_ix (ix_seqK (K := K) rfl) (pv 10) (pe_call G_turned (hr.mono (by omega)) (by rfl) T.g_turned T.F_turned.kp T.b_turned .nil pass0 (pa_cons (pv 12) (pa_cons (pv 4) (pa_cons (pv 8) (pa_cons (pv 9) pa_nil))))) (fun _ _ => rfl)))) pa_nil)))))
  pss_nil)
  (pss_cons (ps_set (i := 13) sc_stepped.nd rfl (Or.inl rfl) (pe_call G_bits (hr.mono (by omega)) (by rfl) T.g_bits T.F_bits.kp T.b_bits .nil pass0 (pa_cons (pv 0) (pa_cons (pv 4) pa_nil))))
  (pss_one (ps_ret (pe_tup (pa_cons (pe_call G_form (hr.mono (by omega)) (by rfl) T.g_form T.F_form.kp T.b_form .nil pass0 (pa_cons (pv 1) (pa_cons (pv 13) pa_nil))) (pa_cons (pv 13) pa_nil)))))))))))))))))))), ?_⟩
  have pf : 2 ^ ns.length ≤ 2 ^ 5 := Nat.pow_le_pow_right (by decide) n5
  have p5 : (2 : Nat) ^ 5 = 32 := by decide
  have lo := po.lo
  have hi := po.hi
  obtain ⟨an, xn, rfl, en, dan⟩ := dn.list_inv
  have z := dan.strs_inv
  subst z
  have ln : (ns.map V.str).length = ns.length := List.length_map _
  -- many
  obtain ⟨c0, r0, vs0, ws0, u0, x0, rp0, ep0, eu0, du0, er0, ex0, gx0⟩ := po.get (i := 0) (by decide) (by omega)
  have hx0 := sm _ _ gx0
  have m0 : (r0.map V.bl).length = 2 ^ ns.length := by rw [List.length_map]; exact rp0.len
  have lvs0 : vs0.length = cs.length := by
    obtain ⟨vs', e', d'⟩ := po.p
    rw [e'] at ep0
    cases ep0
    rw [d'.len, List.length_map]
  repeat walk_at "rd3"
  refine ixL er0 (by decide) ex0 ?_
  repeat walk_at "rd3"
  rw [m0]
  have hH1 := sm _ _ en
  refine ⟨h, 8, G, rfl, sm, hd, by omega, by omega, fun G1 H1 turn E1 h1 t0 t1 => ?_⟩
  have ep1 := E1.at_ ep0 (by simpa using nph)
  repeat walk_at "rd3"
  refine ⟨h, _, G1, rfl, E1.gh, h1, by omega, by omega, fun G2 H2 i E2 h2 i0 i1 => ?_⟩
  have ep2 := E2.at_ ep1 (by simpa using nph)
  repeat walk_at "rd3"
  refine ⟨h, _, G2, rfl, E2.gh, h2, by omega, by omega, fun G3 H3 j E3 h3 j0 j1 => ?_⟩
  have E123 := (E1.trans E2).trans E3
  have en3 := E123.gh _ _ (E123.gg _ _ en)
  repeat walk_at "rd3"
  refine ⟨h, _, G3, rfl, E3.gh, h3, by omega, by omega, fun G4 H4 at_ E4 h4 a0 a1 => ?_⟩
  repeat walk_at "rd3"
  refine ⟨h, _, G4, rfl, E4.gh, h4, by omega, by omega, fun G5 H5 o E5 h5 o0 o1 => ?_⟩
  have E := (E123.trans E4).trans E5
  have po5 := po.up E (by simpa using nph) (by simpa using nrh)
  have en5 := E.gg _ _ en
  have hn5 := E.gh _ _ en5
  obtain ⟨c1, row1, vs1, ws1, u1, x1, rp1, ep1, eu1, du1, er1, ex1, gx1⟩ := po5.get (i := i) i0 (by omega)
  obtain ⟨c2, row2, vs2, ws2, u2, x2, rp2, ep2, eu2, du2, er2, ex2, gx2⟩ := po5.get (i := j) j0 (by omega)
  have hx1 := E.gh _ _ gx1
  have hx2 := E.gh _ _ gx2
  have lat : at_.toNat < ns.length := by omega
  have eat : (ns.map V.str)[at_.toNat]? = some (.str ns[at_.toNat]) := by rw [List.getElem?_map, List.getElem?_eq_getElem lat]; rfl
  have nat_ : ns[at_.toNat]? = some ns[at_.toNat] := List.getElem?_eq_getElem lat
  have mat : ns[at_.toNat] ∈ ns := List.getElem_mem lat
  generalize ns[at_.toNat] = z at eat nat_ mat
  repeat walk_at "rd3"
  refine ixL er1 i0 ex1 ?_
  repeat walk_at "rd3"
  refine ixL er2 j0 ex2 ?_
  repeat walk_at "rd3"
  -- the end: the pair
  have fin : ∀ (G6 H6 : Hp) (vc : V) (c : C) (D : Addr) (row : List Bool), Ex [h] G5 H5 G6 H6 → Hand G6 H6 h → Rep ns c row → Dat G6 vc c.enc → Dat G6 (.ref D) (rowD row) → ([vc, V.ref D].length ≤ sizeLine ∧ ∀ p, H6 p = none → Q (.ref p) (upd H6 p (.tup [vc, .ref D]))) := fun G6 H6 vc c D row E6 h6 rp dc dr => by
    refine ⟨line_le (by show 2 ≤ _; decide), fun p np => ?_⟩
    have gp := E6.gh.free np
    exact q _ _ p vc (.ref D) c row ((E.trans E6).dat np) (h6.pure ((Ex.refl (M := []) E6.gh).dat np)) rp upd_same (dc.up (same_updG gp)) (dr.up (same_updG gp))
  -- what the rows tell
  have eu2' : vs1[j.toNat]? = some u2 := by rw [ep1] at ep2; cases ep2; exact eu2
  have lt13 : ns.length < 13 := by omega
  have n20 : ns.length ≤ 20 := by omega
  have rows_small : ((2 ^ ns.length : Nat) : Int).toNat ≤ 100000 := by omega
  have tnat : ((2 ^ ns.length : Nat) : Int).toNat = 2 ^ ns.length := by omega
  refine ite2 (fun b0 => ?_) (fun b0 => ?_)
  · -- no
    refine tRet_i (Q := Q) rfl ?_
    repeat walk_at "rd3"
    refine ixL ep1 i0 eu1 ?_
    repeat walk_at "rd3"
    refine ⟨u1, ns, c1, G5, rfl, E5.gh, rp1.oc, lt13, du1, fun G6 H6 r6 E6 k6 => ?_⟩
    have hx6 := E6.same _ _ hx1
    repeat walk_at "rd3"
    refine comp_bools (fun k => !c1.ev (asg ns k)) E6.gh rows_small (fun k G7 H7 hk E7 C' C'' hC => ?_) (fun G7 H7 D E7 dr => ?_)
    · have hx7 := E7.same _ _ hx6
      refine ⟨rfl, lcYes ?_⟩
      repeat walk_at "rd3"
      refine ixL hx7 (by omega) (row_at rp1 (by omega)) ?_
      repeat walk_at "rd3"
      exact hC G7 H7 (Ex.refl E7.gh)
    · rw [tnat] at dr
      have k := fin G7 H7 r6 c1.no D _ ((E6.trans E7).of0) (h5.pure (E6.trans E7)) (rep_of rp1.oc.no _ fun k _ => C.ev_no _ _) (k6.up E7.gg) dr
      exact k
  · repeat walk_at "rd3"
    refine ite2 (fun b1 => ?_) (fun b1 => ?_)
    · -- both
      refine (show ∀ {p q : Prop}, p → (if true = true then p else q) from fun h => h) ?_
      refine tRet_i (Q := Q) rfl ?_
      repeat walk_at "rd3"
      refine ixL ep1 i0 eu1 ?_
      repeat walk_at "rd3"
      refine ixL ep1 j0 eu2' ?_
      repeat walk_at "rd3"
      refine ⟨u1, u2, ns, c1, c2, G5, rfl, E5.gh, hn, rp1.oc, rp2.oc, lt13, du1, du2, fun G6 H6 r6 e6 E6 o6 w6 k6 => ?_⟩
      have hx6 := E6.same _ _ hx1
      have hy6 := E6.same _ _ hx2
      repeat walk_at "rd3"
      refine comp_bools (fun k => c1.ev (asg ns k) && c2.ev (asg ns k)) E6.gh rows_small (fun k G7 H7 hk E7 C' C'' hC => ?_) (fun G7 H7 D E7 dr => ?_)
      · have hx7 := E7.same _ _ hx6
        have hy7 := E7.same _ _ hy6
        refine ⟨rfl, lcYes ?_⟩
        repeat walk_at "rd3"
        refine ixL hx7 (by omega) (row_at rp1 (by omega)) ?_
        repeat walk_at "rd3"
        refine ite2 (fun e => ?_) (fun e => ?_)
        · repeat walk_at "rd3"
          refine ixL hy7 (by omega) (row_at rp2 (by omega)) ?_
          have z := hC G7 H7 (Ex.refl E7.gh)
          rw [e, Bool.true_and] at z
          exact z
        · have z := hC G7 H7 (Ex.refl E7.gh)
          rw [Bool.eq_false_iff.mpr e, Bool.false_and] at z
          exact z
      · rw [tnat] at dr
        exact fin G7 H7 r6 e6 D _ ((E6.trans E7).of0) (h5.pure (E6.trans E7)) (rep_of o6 _ fun k _ => w6 _) (k6.up E7.gg) dr

    · repeat walk_at "rd3"
      refine ite2 (fun b1' => ?_) (fun b1' => ?_)
      · -- both again
        refine tRet_i (Q := Q) rfl ?_
        repeat walk_at "rd3"
        refine ixL ep1 i0 eu1 ?_
        repeat walk_at "rd3"
        refine ixL ep1 j0 eu2' ?_
        repeat walk_at "rd3"
        refine ⟨u1, u2, ns, c1, c2, G5, rfl, E5.gh, hn, rp1.oc, rp2.oc, lt13, du1, du2, fun G6 H6 r6 e6 E6 o6 w6 k6 => ?_⟩
        have hx6 := E6.same _ _ hx1
        have hy6 := E6.same _ _ hx2
        repeat walk_at "rd3"
        refine comp_bools (fun k => c1.ev (asg ns k) && c2.ev (asg ns k)) E6.gh rows_small (fun k G7 H7 hk E7 C' C'' hC => ?_) (fun G7 H7 D E7 dr => ?_)
        · have hx7 := E7.same _ _ hx6
          have hy7 := E7.same _ _ hy6
          refine ⟨rfl, lcYes ?_⟩
          repeat walk_at "rd3"
          refine ixL hx7 (by omega) (row_at rp1 (by omega)) ?_
          repeat walk_at "rd3"
          refine ite2 (fun e => ?_) (fun e => ?_)
          · repeat walk_at "rd3"
            refine ixL hy7 (by omega) (row_at rp2 (by omega)) ?_
            have z := hC G7 H7 (Ex.refl E7.gh)
            rw [e, Bool.true_and] at z
            exact z
          · have z := hC G7 H7 (Ex.refl E7.gh)
            rw [Bool.eq_false_iff.mpr e, Bool.false_and] at z
            exact z
        · rw [tnat] at dr
          exact fin G7 H7 r6 e6 D _ ((E6.trans E7).of0) (h5.pure (E6.trans E7)) (rep_of o6 _ fun k _ => w6 _) (k6.up E7.gg) dr

      · repeat walk_at "rd3"
        refine ite2 (fun b2 => ?_) (fun b2 => ?_)
        · -- either
          refine tRet_i (Q := Q) rfl ?_
          repeat walk_at "rd3"
          refine ixL ep1 i0 eu1 ?_
          repeat walk_at "rd3"
          refine ixL ep1 j0 eu2' ?_
          repeat walk_at "rd3"
          refine ⟨u1, u2, ns, c1, c2, G5, rfl, E5.gh, hn, rp1.oc, rp2.oc, lt13, du1, du2, fun G6 H6 r6 e6 E6 o6 w6 k6 => ?_⟩
          have hx6 := E6.same _ _ hx1
          have hy6 := E6.same _ _ hx2
          repeat walk_at "rd3"
          refine comp_bools (fun k => c1.ev (asg ns k) || c2.ev (asg ns k)) E6.gh rows_small (fun k G7 H7 hk E7 C' C'' hC => ?_) (fun G7 H7 D E7 dr => ?_)
          · have hx7 := E7.same _ _ hx6
            have hy7 := E7.same _ _ hy6
            refine ⟨rfl, lcYes ?_⟩
            repeat walk_at "rd3"
            refine ixL hx7 (by omega) (row_at rp1 (by omega)) ?_
            repeat walk_at "rd3"
            refine ite2 (fun e => ?_) (fun e => ?_)
            · have z := hC G7 H7 (Ex.refl E7.gh)
              rw [e, Bool.true_or] at z
              exact z
            · repeat walk_at "rd3"
              refine ixL hy7 (by omega) (row_at rp2 (by omega)) ?_
              have z := hC G7 H7 (Ex.refl E7.gh)
              rw [Bool.eq_false_iff.mpr e, Bool.false_or] at z
              exact z
          · rw [tnat] at dr
            exact fin G7 H7 r6 e6 D _ ((E6.trans E7).of0) (h5.pure (E6.trans E7)) (rep_of o6 _ fun k _ => w6 _) (k6.up E7.gg) dr

        · repeat walk_at "rd3"
          refine ite2 (fun b3 => ?_) (fun b3 => ?_)
          · -- but not
            refine tRet_i (Q := Q) rfl ?_
            repeat walk_at "rd3"
            refine ixL ep1 i0 eu1 ?_
            repeat walk_at "rd3"
            refine ixL ep1 j0 eu2' ?_
            repeat walk_at "rd3"
            refine ⟨u1, u2, ns, c1, c2, G5, rfl, E5.gh, hn, rp1.oc, rp2.oc, lt13, du1, du2, fun G6 H6 r6 e6 E6 o6 w6 k6 => ?_⟩
            have hx6 := E6.same _ _ hx1
            have hy6 := E6.same _ _ hx2
            repeat walk_at "rd3"
            refine comp_bools (fun k => c1.ev (asg ns k) && !c2.ev (asg ns k)) E6.gh rows_small (fun k G7 H7 hk E7 C' C'' hC => ?_) (fun G7 H7 D E7 dr => ?_)
            · have hx7 := E7.same _ _ hx6
              have hy7 := E7.same _ _ hy6
              refine ⟨rfl, lcYes ?_⟩
              repeat walk_at "rd3"
              refine ixL hx7 (by omega) (row_at rp1 (by omega)) ?_
              repeat walk_at "rd3"
              refine ite2 (fun e => ?_) (fun e => ?_)
              · repeat walk_at "rd3"
                refine ixL hy7 (by omega) (row_at rp2 (by omega)) ?_
                repeat walk_at "rd3"
                have z := hC G7 H7 (Ex.refl E7.gh)
                rw [e, Bool.true_and] at z
                exact z
              · have z := hC G7 H7 (Ex.refl E7.gh)
                rw [Bool.eq_false_iff.mpr e, Bool.false_and] at z
                exact z
            · rw [tnat] at dr
              exact fin G7 H7 r6 e6 D _ ((E6.trans E7).of0) (h5.pure (E6.trans E7)) (rep_of o6 _ fun k _ => w6 _) (k6.up E7.gg) dr

          · repeat walk_at "rd3"
            refine ite2 (fun b4 => ?_) (fun b4 => ?_)
            · -- switched
              repeat walk_at "rd3"
              refine comp_bools (fun k => if asg ns k z then c1.ev (asg ns k) else c2.ev (asg ns k)) E5.gh rows_small (fun k G7 H7 hk E7 C' C'' hC => ?_) (fun G7 H7 D E7 dr => ?_)
              · have hx7 := E7.same _ _ hx1
                have hy7 := E7.same _ _ hx2
                have hk2 : k < 2 ^ ns.length := by omega
                have k0 : (0 + (k : Int)) = (k : Int) := by omega
                have a0' : ((at_.toNat : Nat) : Int) = at_ := by omega
                refine ⟨rfl, lcYes ?_⟩
                repeat walk_at "rd3"
                refine ⟨k, ns.length, at_.toNat, true, by rw [k0, a0']; rfl, lat, n20, hk2, ?_⟩
                repeat walk_at "rd3"
                have key : (((tn (2 ^ (ns.length - 1 - at_.toNat)) k true : Nat) : Int) == 0 + (k : Int)) = asg ns k z := by
                  have e1 := asg_tn hn.nd nat_ k true z mat
                  have e2 : fset (asg ns k) z true z = true := by simp [fset]
                  rw [Bool.eq_iff_iff, beq_iff_eq]
                  constructor
                  · intro e
                    have e3 : tn (2 ^ (ns.length - 1 - at_.toNat)) k true = k := by omega
                    rw [e3, e2] at e1
                    exact e1
                  · intro e
                    rw [asg_at hn.nd nat_, decide_eq_true_iff] at e
                    unfold tn
                    have lt : 2 ^ (ns.length - 1 - at_.toNat) ≤ k := Classical.byContradiction fun w => by
                      rw [Nat.div_eq_of_lt (by omega)] at e
                      cases e
                    rw [if_pos e]
                    simp only [if_true]
                    omega
                rw [key]
                have zz := hC G7 H7 (Ex.refl E7.gh)
                refine ite2 (fun e => ?_) (fun e => ?_)
                · repeat walk_at "rd3"
                  refine ixL hx7 (by omega) (row_at rp1 (by omega)) ?_
                  rw [if_pos e] at zz
                  exact zz
                · repeat walk_at "rd3"
                  refine ixL hy7 (by omega) (row_at rp2 (by omega)) ?_
                  rw [if_neg e] at zz
                  exact zz
              · rw [tnat] at dr
                have hn7 := E7.same _ _ hn5
                have ep7 := E7.same _ _ ep1
                repeat walk_at "rd3"
                refine ixL hn7 a0 eat ?_
                repeat walk_at "rd3"
                refine ixL ep7 i0 eu1 ?_
                repeat walk_at "rd3"
                refine ixL ep7 j0 eu2' ?_
                repeat walk_at "rd3"
                refine ⟨z, u1, u2, ns, c1, c2, G7, rfl, E7.gh, hn, rp1.oc, rp2.oc, mat, lt13, du1.up E7.gg, du2.up E7.gg, fun G8 H8 r8 e8 E8 o8 w8 k8 => ?_⟩
                repeat walk_at "rd3"
                exact fin G8 H8 r8 e8 D _ ((E7.trans E8).of0) (h5.pure (E7.trans E8)) (rep_of o8 _ fun k _ => w8 _) k8 (dr.up E8.gg)
            · repeat walk_at "rd3"
              refine ite2 (fun b5 => ?_) (fun b5 => ?_)
              · -- fixed
                refine tRet_i (Q := Q) rfl ?_
                repeat walk_at "rd3"
                refine ixL ep1 i0 eu1 ?_
                repeat walk_at "rd3"
                refine ixL hn5 a0 eat ?_
                repeat walk_at "rd3"
                refine ⟨u1, z, _, ns, c1, G5, rfl, E5.gh, hn, rp1.oc, lt13, (hn.ok z mat).1, du1, fun G6 H6 r6 e6 E6 o6 w6 k6 => ?_⟩
                have hx6 := E6.same _ _ hx1
                repeat walk_at "rd3"
                refine comp_bools (fun k => c1.ev (fset (asg ns k) z (o == 1))) E6.gh rows_small (fun k G7 H7 hk E7 C' C'' hC => ?_) (fun G7 H7 D E7 dr => ?_)
                · have hx7 := E7.same _ _ hx6
                  have hk2 : k < 2 ^ ns.length := by omega
                  have k0 : (0 + (k : Int)) = (k : Int) := by omega
                  have a0' : ((at_.toNat : Nat) : Int) = at_ := by omega
                  have wt := tn_lt (p := ns.length - 1 - at_.toNat) (o == 1) (by omega) hk2
                  refine ⟨rfl, lcYes ?_⟩
                  repeat walk_at "rd3"
                  refine ⟨k, ns.length, at_.toNat, o == 1, by rw [k0, a0']; rfl, lat, n20, hk2, ?_⟩
                  refine ixL hx7 (by omega) (v := .bl (c1.ev (fset (asg ns k) z (o == 1)))) (by rw [Int.toNat_natCast, List.getElem?_map, rp1.at_ _ wt, ev_tn hn.nd nat_ rp1.oc]; rfl) ?_
                  exact hC G7 H7 (Ex.refl E7.gh)
                · rw [tnat] at dr
                  exact fin G7 H7 r6 e6 D _ ((E6.trans E7).of0) (h5.pure (E6.trans E7)) (rep_of o6 _ fun k _ => w6 _) (k6.up E7.gg) dr
              · -- drawn
                repeat walk_at "rd3"
                refine ⟨h, _, G5, rfl, E5.gh, h5, by omega, by omega, fun G6 H6 r6 bs E6 h6 lb d6 => ?_⟩
                obtain ⟨D, xD, rfl, eD, dD⟩ := d6.list_inv
                have hn6 := E6.gg _ _ en5
                have dn6 : Dat G6 (.ref an) (strsD ns) := .lst hn6 (DatA.strs ns)
                repeat walk_at "rd3"
                refine ⟨.ref an, .ref D, ns, bs, G6, rfl, E6.gh, hn, by omega, lt13, dn6, d6, fun G7 H7 r7 c7 E7 rp7 k7 => ?_⟩
                repeat walk_at "rd3"
                exact fin G7 H7 r7 c7 D bs (E6.trans E7.of0) (h6.pure E7) rp7 k7 (d6.up E7.gg)
end
section
variable {P : Program} {w : World} {K : PySem.W.Frag} {mg : Str → Option Value} {base : Heap}
theorem tame_enc {ns : List Str} {c : C} (h : OC ns c) (hn : NS ns) : tame c.enc = true ∧ c.enc.depth < 13 := by
  refine ⟨?_, by have a := C.depth_le h; have b := hn.few; omega⟩
  have k : ∀ {ns : List Str} {c : C}, OC ns c → (∀ n ∈ ns, PyData.strOk n = true) → tame c.enc = true := fun {ns c} h => by
    induction h with
    | leaf v => intro _; rfl
    | @node x xs a b _ _ _ ha hb =>
      intro k
      show (true && (PyData.strOk x && (tame a.enc && (tame b.enc && true)))) = true
      rw [ha fun n m => k n (List.mem_cons_of_mem _ m), hb fun n m => k n (List.mem_cons_of_mem _ m), k x List.mem_cons_self]
      rfl
    | skip _ ih => exact fun k => ih fun n m => k n (List.mem_cons_of_mem _ m)
  exact k h fun n m => (hn.ok n m).1
theorem tame_strs {ss : List Str} (h : ∀ s ∈ ss, PyData.strOk s = true) (l : ss.length ≤ 1000) : tame (.tuple (ss.map PyData.str)) = true ∧ (PyData.tuple (ss.map PyData.str)).depth < 13 := by
  have k : ∀ ss : List Str, (∀ s ∈ ss, PyData.strOk s = true) → tame.tames (ss.map PyData.str) = true ∧ PyData.depthAll (ss.map PyData.str) = 0 := fun ss => by
    induction ss with
    | nil => exact fun _ => ⟨rfl, rfl⟩
    | cons x r ih =>
      intro h
      obtain ⟨i1, i2⟩ := ih fun s m => h s (List.mem_cons_of_mem _ m)
      refine ⟨?_, ?_⟩
      · show (PyData.strOk x && tame.tames (r.map PyData.str)) = true
        rw [h x List.mem_cons_self, i1]
        rfl
      · show max 0 (PyData.depthAll (r.map PyData.str)) = 0
        rw [i2]
        rfl
  obtain ⟨k1, k2⟩ := k ss h
  refine ⟨?_, ?_⟩
  · show (decide ((ss.map PyData.str).length ≤ 1000) && tame.tames (ss.map PyData.str)) = true
    rw [k1, decide_eq_true (by rw [List.length_map]; exact l)]
    rfl
  · show PyData.depthAll (ss.map PyData.str) + 1 < 13
    rw [k2]
    decide
theorem filter_pw {ns : List Str} {p : Str → Bool} (h : ns.Pairwise slt) : (ns.filter p).Pairwise slt := List.Pairwise.sublist List.filter_sublist h
def spAsked (K : PySem.W.Frag) : Sp := fun vs H Q _ => ∃ (h : Addr) (vn vset vc vr : V) (ns : List Str) (c : C) (row : List Bool) (G : Hp), vs = [.ref h, vn, vset, vc, vr] ∧ Same G H ∧ Hand G H h ∧ NS ns ∧ ns.length ≤ 5 ∧ Str.ofString "Q9" ∉ ns ∧ Dat G vn (strsD ns) ∧ Dat G vset (.list ((SL ns).map strsD)) ∧ Rep ns c row ∧ Dat G vc c.enc ∧ Dat G vr (rowD row) ∧
  ∀ G' H', Ex [h] G H G' H' → Hand G' H' h → Q (.bl true) H'
theorem ok_asked_k00 (T : Tp K mg) : FnOk P w K mg base CX0 20 T.a_asked_k00 T.d_asked_k00 ["_law_hand_here", "_law_names", "_law_settings_here", "_law_condition", "_law_row"] (spAsked K) := by
  have G_take := ok_take (P := P) (w := w) (base := base) T
  have G_form := ok_form (P := P) (w := w) (base := base) T 13
  have G_alike := ok_alike (P := P) (w := w) (base := base) T 13
  have G_switches_of := ok_switches_of (P := P) (w := w) (base := base) T
  have G_matter := ok_matter (P := P) (w := w) (base := base) T
  have G_holds := ok_holds (P := P) (w := w) (base := base) T
  have G_muddled := ok_muddled (P := P) (w := w) (base := base) T
  refine T.F_asked_k00.ok sc_asked_k00 (fun vs H Q E h => ?_) (fun cdv A outer s H vs Q E hr h => ?_)
  · obtain ⟨_, _, _, _, _, _, _, _, _, rfl, _⟩ := h; rfl
  obtain ⟨h, vn, vset, vc, vr, ns, c, row, G, rfl, sm, hd, hn, n5, nq, dn, ds, rp, dc, dr, q⟩ := h
  have hu64 := hr.units
  refine ⟨_, (pss_cons (ps_if (PW.pt (pw_or (pt_not (pt_truthK (K := K) rfl (pe_call G_alike (hr.mono (by omega)) (by rfl) T.g_alike T.F_alike.kp T.b_alike .nil pass0 (pa_cons (pv 3) (pa_cons (pe_call G_form (hr.mono (by omega)) (by rfl) T.g_form T.F_form.kp T.b_form .nil pass0 (pa_cons (pv 1) (pa_cons (pv 4) pa_nil))) pa_nil))) (by intro _; rfl))) (pw_or1 (pt_not (pt_truthK (K := K) rfl (pe_call G_alike (hr.mono (by omega)) (by rfl) T.g_alike T.F_alike.kp T.b_alike .nil pass0 (pa_cons (pe_call G_switches_of (hr.mono (by omega)) (by rfl) T.g_switches_of T.F_switches_of.kp T.b_switches_of .nil pass0 (pa_cons (pv 3) pa_nil)) (pa_cons (pe_call G_matter (hr.mono (by omega)) (by rfl) T.g_matter T.F_matter.kp T.b_matter .nil pass0 (pa_cons (pv 1) (pa_cons (pv 4) pa_nil))) pa_nil))) (by intro _; rfl))))))
  (pss_one (ps_ret pe_bl))
  pss_nil)
  (pss_cons (ps_set (i := 5) sc_asked_k00.nd rfl (Or.inl rfl) (pe_call G_take (hr.mono (by omega)) (by rfl) T.g_take T.F_take.kp T.b_take .nil pass0 (pa_cons (pv 0) (pa_cons (pe_callB (call_lenK (K := K) rfl) (by rfl) T.z_len (by decide +kernel) (pa_cons (pv 2) pa_nil)) pa_nil))))
  (pss_one (ps_ret (pe_call G_alike (hr.mono (by omega)) (by rfl) T.g_alike T.F_alike.kp T.b_alike .nil pass0 (pa_cons (pe_call G_holds (hr.mono (by omega)) (by rfl) T.g_holds T.F_holds.kp T.b_holds .nil pass0 (pa_cons (pv 3) (pa_cons (pe_call G_muddled (hr.mono (by omega)) (by rfl) T.g_muddled T.F_muddled.kp T.b_muddled .nil pass0 (pa_cons (pv 0) (pa_cons (pe_ix (ix_seqK (K := K) rfl) (pv 2) (pv 5) (fun _ _ => rfl)) pa_nil))) pa_nil))) (pa_cons (pe_ix (ix_seqK (K := K) rfl) (pv 4) (pv 5) (fun _ _ => rfl)) pa_nil))))))), ?_⟩
  have lt13 : ns.length < 13 := by omega
  obtain ⟨tc, dpc⟩ := tame_enc rp.oc hn
  repeat walk_at "rd3"
  refine ⟨vn, vr, ns, row, G, rfl, sm, hn, rp.len, lt13, dn, dr, fun G1 H1 r1 c1 E1 rp1 k1 => ?_⟩
  have ec : c1 = c := rp1.uniq hn.nd rp
  subst ec
  repeat walk_at "rd3"
  refine ⟨vc, r1, c1.enc, G1, rfl, E1.gh, dc.up E1.gg, k1, tc, dpc, fun G2 H2 E2 => ?_⟩
  repeat walk_at "rd3"
  refine ⟨vc, ns, c1, G2, rfl, E2.gh, hn, rp.oc, (dc.up E1.gg).up E2.gg, fun G3 H3 r3 ss E3 pw3 m3 k3 => ?_⟩
  have E13 := (E1.trans E2).trans E3
  repeat walk_at "rd3"
  refine ⟨vn, vr, ns, c1, row, G3, rfl, E3.gh, hn, rp, dn.up E13.gg, dr.up E13.gg, fun G4 H4 r4 E4 k4 => ?_⟩
  have es : ss = ns.filter fun s => decide (s ∈ c1.vars) := sorted_uniq pw3 (filter_pw hn.srt) fun s => by
    rw [m3, List.mem_filter]
    exact ⟨fun m => ⟨rp.oc.vars s m, decide_eq_true m⟩, fun m => of_decide_eq_true m.2⟩
  obtain ⟨ts, dps⟩ := tame_strs (ss := ns.filter fun s => decide (s ∈ c1.vars)) (fun s m => (hn.ok s (List.mem_filter.mp m).1).1) (by have := List.length_filter_le (fun s => decide (s ∈ c1.vars)) ns; omega)
  rw [es] at k3
  repeat walk_at "rd3"
  refine ⟨r3, r4, _, G4, rfl, E4.gh, k3.up E4.gg, k4, ts, dps, fun G5 H5 E5 => ?_⟩
  have E15 := (E13.trans E4).trans E5
  obtain ⟨b, ws, rfl, eb, db⟩ := (ds.up E15.gg).list_inv
  have lw := db.len
  rw [List.length_map, SL_len] at lw
  have eHb := E5.gh _ _ eb
  have pw := Nat.two_pow_pos ns.length
  have pf : 2 ^ ns.length ≤ 2 ^ 5 := Nat.pow_le_pow_right (by decide) n5
  have p5 : (2 : Nat) ^ 5 = 32 := by decide
  have h5 := hd.pure E15
  repeat walk_at "rd3"
  refine ⟨h, _, G5, rfl, E5.gh, h5, by omega, by omega, fun G6 H6 k E6 h6 k0 kl => ?_⟩
  have hk : k.toNat < 2 ^ ns.length := by omega
  have hk' : k.toNat < (SL ns).length := by rw [SL_len]; exact hk
  have hSL : (SL ns)[k.toNat]? = some (SL ns)[k.toNat] := List.getElem?_eq_getElem hk'
  obtain ⟨u, gu, du⟩ := db.get (i := k.toNat) (d := strsD (SL ns)[k.toNat]) (by rw [List.getElem?_map, hSL]; rfl)
  have eHb6 := E6.gh _ _ (E6.gg _ _ eb)
  have fewl := (SL_few (List.getElem_mem hk')).1
  repeat walk_at "rd3"
  refine ixL eHb6 k0 gu ?_
  repeat walk_at "rd3"
  refine ⟨h, u, (SL ns)[k.toNat], G6, rfl, E6.gh, h6, by omega, du.up E6.gg, fun G7 H7 r7 es E7 h7 mem7 s7 => ?_⟩
  have E57 := E6.trans E7
  have dc7 := (dc.up E15.gg).up E57.gg
  repeat walk_at "rd3"
  refine ⟨vc, r7, es, c1, G7, rfl, E7.gh, s7, dc7, ?_⟩
  obtain ⟨b2, ws2, er, eb2, db2⟩ := ((dr.up E15.gg).up E57.gg).list_inv
  subst er
  have z2 := db2.bls_inv
  subst z2
  have eHr := E7.gh _ _ eb2
  rw [ev_SL hn.nd hSL rp.oc mem7 nq]
  repeat walk_at "rd3"
  refine ixL eHr k0 (v := .bl (c1.ev (asg ns k.toNat))) (by rw [List.getElem?_map, rp.at_ _ hk]; rfl) ?_
  repeat walk_at "rd3"
  refine ⟨_, _, .bool (c1.ev (asg ns k.toNat)), G7, rfl, E7.gh, .bl _, .bl _, rfl, by show 0 < 13; decide, fun G8 H8 E8 => ?_⟩
  exact q G8 H8 ((E15.of0.trans E57).trans E8.of0) (h7.pure E8)
end
section
variable {P : Program} {w : World} {K : PySem.W.Frag} {mg : Str → Option Value} {base : Heap}
theorem Pool.push {G H G' H' : Hp} {ns : List Str} {pp pr : Addr} {cs : List C} {rows : List (List Bool)} (po : Pool G H ns pp pr cs rows) {vs ws : List V} {u x : V} {c : C} {row : List Bool} (hp : H' pp = some (.lst (vs ++ [u]))) (dv : DatA G' vs (cs.map C.enc)) (du : Dat G' u c.enc)
    (hr : H' pr = some (.lst (ws ++ [x]))) (dw : DatA G' ws (rows.map rowD)) (dx : Dat G' x (rowD row)) (rp : Rep ns c row) (hi : cs.length < 100) : Pool G' H' ns pp pr (cs ++ [c]) (rows ++ [row]) := by
  refine ⟨⟨_, hp, by rw [List.map_append]; exact dv.app (.cons du .nil)⟩, ⟨_, hr, by rw [List.map_append]; exact dw.app (.cons dx .nil)⟩, by rw [List.length_append, List.length_append, po.len]; rfl, by have := po.lo; rw [List.length_append]; omega, by rw [List.length_append]; show cs.length + 1 ≤ 100; omega, fun i c' row' e1 e2 => ?_⟩
  by_cases h : i < cs.length
  · rw [List.getElem?_append_left h] at e1
    rw [List.getElem?_append_left (by rw [← po.len]; exact h)] at e2
    exact po.rep i c' row' e1 e2
  · have hi2 : i = cs.length := by
      have := (List.getElem?_eq_some_iff.mp e1).1
      rw [List.length_append, List.length_singleton] at this
      omega
    subst hi2
    rw [List.getElem?_append_right (Nat.le_refl _), Nat.sub_self] at e1
    rw [po.len, List.getElem?_append_right (Nat.le_refl _), Nat.sub_self] at e2
    cases e1
    cases e2
    exact rp
def spLaw (K : PySem.W.Frag) : Sp := fun vs H Q _ => ∃ (a : Addr) (ns : List Int), vs = [.ref a] ∧ SqL K H a (ns.map V.int) ∧ ns.length ≤ 63 ∧ ∀ H', Q (.bl true) H'
theorem ok_law (T : Tp K mg) : FnOk P w K mg base CX0 40 T.a_law T.d_law ["_law_script"] (spLaw K) := by
  have G_hand := ok_hand (P := P) (w := w) (base := base) T
  have G_take := ok_take (P := P) (w := w) (base := base) T
  have G_switch_names := ok_switch_names (P := P) (w := w) (base := base) T
  have G_settings := ok_settings (P := P) (w := w) (base := base) T
  have G_switch_condition := ok_switch_condition (P := P) (w := w) (base := base) T
  have G_turned := ok_turned (P := P) (w := w) (base := base) T
  have G_alike := ok_alike (P := P) (w := w) (base := base) T 13
  have G_stepped := ok_stepped (P := P) (w := w) (base := base) T
  have G_asked_k00 := ok_asked_k00 (P := P) (w := w) (base := base) T
  have G_implies := ok_implies (P := P) (w := w) (base := base) T 13
  have G_holds := ok_holds (P := P) (w := w) (base := base) T
  have G_fixed := ok_fixed (P := P) (w := w) (base := base) T 13
  have G_form := ok_form (P := P) (w := w) (base := base) T 13
  refine T.F_law.ok sc_law (fun vs H Q E h => ?_) (fun cdv A outer s H vs Q E hr h => ?_)
  · obtain ⟨_, _, rfl, _⟩ := h; rfl
  obtain ⟨a, is, rfl, hS, hl, q⟩ := h
  have hu64 := hr.units
  refine ⟨_, (pss_cons (ps_set (i := 1) sc_law.nd rfl (Or.inl rfl) (pe_call G_hand (hr.mono (by omega)) (by rfl) T.g_hand T.F_hand.kp T.b_hand .nil pass0 (pa_cons (pv 0) pa_nil)))
  (pss_cons (ps_set (i := 2) sc_law.nd rfl (Or.inl rfl) (pe_call G_switch_names (hr.mono (by omega)) (by rfl) T.g_switch_names T.F_switch_names.kp T.b_switch_names .nil pass0 (pa_cons (pv 1) (pa_cons (pe_op (op_addAK (K := K) rfl) pe_int (pe_call G_take (hr.mono (by omega)) (by rfl) T.g_take T.F_take.kp T.b_take .nil pass0 (pa_cons (pv 1) (pa_cons pe_int pa_nil)))) pa_nil))))
  (pss_cons (ps_set (i := 3) sc_law.nd rfl (Or.inl rfl) (pe_call G_settings (hr.mono (by omega)) (by rfl) T.g_settings T.F_settings.kp T.b_settings .nil pass0 (pa_cons (pv 2) pa_nil)))
  (pss_cons (ps_set (i := 4) sc_law.nd rfl (Or.inr rfl) (pe_callB (call_lenK (K := K) rfl) (by rfl) T.z_len (by decide +kernel) (pa_cons (pv 3) pa_nil)))
  (pss_cons (ps_set (i := 5) sc_law.nd rfl (Or.inl rfl) (pe_lst (pa_cons pe_bl (pa_cons pe_bl pa_nil))))
  (pss_cons (ps_set (i := 6) sc_law.nd rfl (Or.inr rfl) (pe_lst (pa_cons (pe_lc (own := [("_law_k", 7)]) rfl sc_law.nd (pi_range1 (by rfl) T.z_range (pa_cons (pv 4) pa_nil)) (blkOk_by (own := [("_law_k", 7)]) (N := ["_law_script", "_law_hand_here", "_law_names", "_law_settings_here", "_law_many", "_law_pool", "_law_rows", "_law_k", "_law_at", "_law_step", "_law_condition", "_law_row", "_law_other", "_law_due", "_law_strange"]) (sc := defScope s_law) (scope := { kind := PySem.ScopeKind.function, names := [(PySem.Str.ofString ".0", PySem.NameKind.local), (PySem.Str.ofString "_law_k", PySem.NameKind.local)], isGenerator := false, isCoroutine := false, more := [] : PySem.Scope }) (by decide +kernel)) (fun _ _ _ _ _ => (pg_name (i := 7) sc_law.nd rfl (Or.inl rfl) (Or.inr rfl))) (fun _ _ _ _ _ => pts_nil) (fun _ _ _ _ _ => pe_bl)) (pa_cons (pe_lc (own := [("_law_k", 7)]) rfl sc_law.nd (pi_range1 (by rfl) T.z_range (pa_cons (pv 4) pa_nil)) (blkOk_by (own := [("_law_k", 7)]) (N := ["_law_script", "_law_hand_here", "_law_names", "_law_settings_here", "_law_many", "_law_pool", "_law_rows", "_law_k", "_law_at", "_law_step", "_law_condition", "_law_row", "_law_other", "_law_due", "_law_strange"]) (sc := defScope s_law) (scope := { kind := PySem.ScopeKind.function, names := [(PySem.Str.ofString ".0", PySem.NameKind.local), (PySem.Str.ofString "_law_k", PySem.NameKind.local)], isGenerator := false, isCoroutine := false, more := [] : PySem.Scope }) (by decide +kernel)) (fun _ _ _ _ _ => (pg_name (i := 7) sc_law.nd rfl (Or.inl rfl) (Or.inr rfl))) (fun _ _ _ _ _ => pts_nil) (fun _ _ _ _ _ => pe_bl)) pa_nil))))
  (pss_cons (ps_for PassesOwn.never rfl (pi_range1 (by rfl) T.z_range (pa_cons (pe_callB (call_lenK (K := K) rfl) (by rfl) T.z_len (by decide +kernel) (pa_cons (pv 2) pa_nil)) pa_nil)) (pg_name (i := 8) sc_law.nd rfl (Or.inr rfl))
  (pss_cons (ps_expr (pe_bmK (K := K) rfl PySem.F.plainAttrs_list PySem.F.slot_list_append PySem.F.type_list_append mt_append (pv 5) (pa_cons (pe_call G_switch_condition (hr.mono (by omega)) (by rfl) T.g_switch_condition T.F_switch_condition.kp T.b_switch_condition .nil pass0 (pa_cons (pe_ix (ix_seqK (K := K) rfl) (pv 2) (pv 8) (fun _ _ => rfl)) pa_nil)) pa_nil)))
  (pss_cons (ps_expr (pe_bmK (K := K) rfl PySem.F.plainAttrs_list PySem.F.slot_list_append PySem.F.type_list_append mt_append (pv 6) (pa_cons (pe_lc (own := [("_law_k", 7)]) rfl sc_law.nd (pi_range1 (by rfl) T.z_range (pa_cons (pv 4) pa_nil)) (blkOk_by (own := [("_law_k", 7)]) (N := ["_law_script", "_law_hand_here", "_law_names", "_law_settings_here", "_law_many", "_law_pool", "_law_rows", "_law_k", "_law_at", "_law_step", "_law_condition", "_law_row", "_law_other", "_law_due", "_law_strange"]) (sc := defScope s_law) (scope := { kind := PySem.ScopeKind.function, names := [ (PySem.Str.ofString ".0", PySem.NameKind.local), (PySem.Str.ofString "_law_k", PySem.NameKind.local), (PySem.Str.ofString "_law_turned", PySem.NameKind.globalImplicit), (PySem.Str.ofString "_law_at", PySem.NameKind.free), (PySem.Str.ofString "_law_many", PySem.NameKind.free)], isGenerator := false, isCoroutine := false, more := [] : PySem.Scope }) (by decide +kernel)) (fun _ _ _ _ _ => (pg_name (i := 7) sc_law.nd rfl (Or.inl rfl) (Or.inr rfl))) (fun _ _ _ _ _ => pts_nil) (fun _ _ _ _ _ => (pe_cmpR (op_eqDK (K := K) rfl hu64) (pe_call G_turned (hr.mono (by omega)) (by rfl) T.g_turned T.F_turned.kp T.b_turned .nil pass0 (pa_cons (pv 7) (pa_cons (pv 4) (pa_cons (pv 8) (pa_cons pe_bl pa_nil))))) (pv 7) (nomark _)))) pa_nil)))
  (pss_one (ps_if (pt_not (pt_truthK (K := K) rfl (pe_call G_alike (hr.mono (by omega)) (by rfl) T.g_alike T.F_alike.kp T.b_alike .nil pass0 (pa_cons (pe_ix (ix_seqK (K := K) rfl) (pv 5) (pe_un un_neg pe_int) (fun _ _ => rfl)) (pa_cons (pe_tup (pa_cons (pe_ix (ix_seqK (K := K) rfl) (pv 2) (pv 8) (fun _ _ => rfl)) (pa_cons pe_bl (pa_cons pe_bl pa_nil)))) pa_nil))) (by intro _; rfl)))
  (pss_one (ps_ret pe_bl))
  pss_nil)))))
  (pss_cons (ps_for PassesOwn.never rfl (pi_range1 (by rfl) T.z_range (pa_cons (pe_op (op_addAK (K := K) rfl) pe_int (pe_call G_take (hr.mono (by omega)) (by rfl) T.g_take T.F_take.kp T.b_take .nil pass0 (pa_cons (pv 1) (pa_cons pe_int pa_nil)))) pa_nil)) (pg_name (i := 9) sc_law.nd rfl (Or.inl rfl))
  (pss_cons (ps_asg (pe_call G_stepped (hr.mono (by omega)) (by rfl) T.g_stepped T.F_stepped.kp T.b_stepped .nil pass0 (pa_cons (pv 1) (pa_cons (pv 2) (pa_cons (pv 5) (pa_cons (pv 6) pa_nil))))) (pg_tupK (K := K) rfl rfl (pgs_cons (pg_name (i := 10) sc_law.nd rfl (Or.inl rfl)) (pgs_cons (pg_name (i := 11) sc_law.nd rfl (Or.inr rfl)) pgs_nil))))
  (pss_cons (ps_if (pt_not (pt_truthK (K := K) rfl (pe_call G_asked_k00 (hr.mono (by omega)) (by rfl) T.g_asked_k00 T.F_asked_k00.kp T.b_asked_k00 .nil pass0 (pa_cons (pv 1) (pa_cons (pv 2) (pa_cons (pv 3) (pa_cons (pv 10) (pa_cons (pv 11) pa_nil)))))) (by intro _; rfl)))
  (pss_one (ps_ret pe_bl))
  pss_nil)
  (pss_cons (ps_expr (pe_bmK (K := K) rfl PySem.F.plainAttrs_list PySem.F.slot_list_append PySem.F.type_list_append mt_append (pv 5) (pa_cons (pv 10) pa_nil)))
  (pss_cons (ps_expr (pe_bmK (K := K) rfl PySem.F.plainAttrs_list PySem.F.slot_list_append PySem.F.type_list_append mt_append (pv 6) (pa_cons (pv 11) pa_nil)))
  (pss_cons (ps_set (i := 12) sc_law.nd rfl (Or.inr rfl) (pe_call G_take (hr.mono (by omega)) (by rfl) T.g_take T.F_take.kp T.b_take .nil pass0 (pa_cons (pv 1) (pa_cons (pe_callB (call_lenK (K := K) rfl) (by rfl) T.z_len (by decide +kernel) (pa_cons (pv 5) pa_nil)) pa_nil))))
  (pss_cons (ps_set (i := 13) sc_law.nd rfl (Or.inl rfl) (pe_cmpR (op_eqDK (K := K) rfl hu64) (pe_callB (call_lenK (K := K) rfl) (by rfl) T.z_len (by decide +kernel) (pa_cons (pe_lc (own := [("_law_k", 7)]) rfl sc_law.nd (pi_range1 (by rfl) T.z_range (pa_cons (pv 4) pa_nil)) (blkOk_by (own := [("_law_k", 7)]) (N := ["_law_script", "_law_hand_here", "_law_names", "_law_settings_here", "_law_many", "_law_pool", "_law_rows", "_law_k", "_law_at", "_law_step", "_law_condition", "_law_row", "_law_other", "_law_due", "_law_strange"]) (sc := defScope s_law) (scope := { kind := PySem.ScopeKind.function, names := [ (PySem.Str.ofString ".0", PySem.NameKind.local), (PySem.Str.ofString "_law_k", PySem.NameKind.local), (PySem.Str.ofString "_law_other", PySem.NameKind.free), (PySem.Str.ofString "_law_row", PySem.NameKind.free), (PySem.Str.ofString "_law_rows", PySem.NameKind.free)], isGenerator := false, isCoroutine := false, more := [] : PySem.Scope }) (by decide +kernel)) (fun _ _ _ _ _ => (pg_name (i := 7) sc_law.nd rfl (Or.inl rfl) (Or.inr rfl))) (fun _ _ _ _ _ => (pts_one (PW.pt (pw_and (pt_truthK (K := K) rfl (pe_ix (ix_seqK (K := K) rfl) (pv 11) (pv 7) (fun _ _ => rfl)) (by intro _; rfl)) (pw_and1 (pt_not (pt_truthK (K := K) rfl (pe_ix (ix_seqK (K := K) rfl) (pe_ix (ix_seqK (K := K) rfl) (pv 6) (pv 12) (fun _ _ => rfl)) (pv 7) (fun _ _ => rfl)) (by intro _; rfl)))))))) (fun _ _ _ _ _ => (pv 7))) pa_nil)) pe_int (nomark _)))
  (pss_one (ps_if (pt_not (pt_truthK (K := K) rfl (pe_call G_alike (hr.mono (by omega)) (by rfl) T.g_alike T.F_alike.kp T.b_alike .nil pass0 (pa_cons (pe_call G_implies (hr.mono (by omega)) (by rfl) T.g_implies T.F_implies.kp T.b_implies .nil pass0 (pa_cons (pv 10) (pa_cons (pe_ix (ix_seqK (K := K) rfl) (pv 5) (pv 12) (fun _ _ => rfl)) pa_nil))) (pa_cons (pv 13) pa_nil))) (by intro _; rfl)))
  (pss_one (ps_ret pe_bl))
  pss_nil)))))))))
  (pss_cons (ps_for PassesOwn.never rfl (pi_range1 (by rfl) T.z_range (pa_cons (pv 4) pa_nil)) (pg_name (i := 7) sc_law.nd rfl (Or.inl rfl))
  (pss_one (ps_if (pt_not (pt_truthK (K := K) rfl (pe_call G_alike (hr.mono (by omega)) (by rfl) T.g_alike T.F_alike.kp T.b_alike .nil pass0 (pa_cons (pe_call G_holds (hr.mono (by omega)) (by rfl) T.g_holds T.F_holds.kp T.b_holds .nil pass0 (pa_cons (pe_ix (ix_seqK (K := K) rfl) (pv 5) (pe_un un_neg pe_int) (fun _ _ => rfl)) (pa_cons (pe_callTy (call_listAK (K := K) rfl rfl) (by rfl) T.z_list (by decide +kernel) (pa_cons (pe_ix (ix_seqK (K := K) rfl) (pv 3) (pv 7) (fun _ _ => rfl)) pa_nil)) pa_nil))) (pa_cons (pe_ix (ix_seqK (K := K) rfl) (pe_ix (ix_seqK (K := K) rfl) (pv 6) (pe_un un_neg pe_int) (fun _ _ => rfl)) (pv 7) (fun _ _ => rfl)) pa_nil))) (by intro _; rfl)))
  (pss_one (ps_ret pe_bl))
  pss_nil)))
  (pss_cons (ps_set (i := 14) sc_law.nd rfl (Or.inl rfl) (pe_call G_fixed (hr.mono (by omega)) (by rfl) T.g_fixed T.F_fixed.kp T.b_fixed .nil pass0 (pa_cons (pe_ix (ix_seqK (K := K) rfl) (pv 5) (pe_un un_neg pe_int) (fun _ _ => rfl)) (pa_cons pe_str (pa_cons pe_bl pa_nil)))))
  (pss_one (ps_ret (pe_call G_alike (hr.mono (by omega)) (by rfl) T.g_alike T.F_alike.kp T.b_alike .nil pass0 (pa_cons (pv 14) (pa_cons (pe_call G_form (hr.mono (by omega)) (by rfl) T.g_form T.F_form.kp T.b_form .nil pass0 (pa_cons (pv 2) (pa_cons (pe_ix (ix_seqK (K := K) rfl) (pv 6) (pe_un un_neg pe_int) (fun _ _ => rfl)) pa_nil))) pa_nil))))))))))))))), ?_⟩
  repeat walk_at "rd3"
  refine ⟨a, is, fun _ => none, rfl, hS, hl, (fun b o e => nomatch e), fun G1 H1 h E0 h1 => ?_⟩
  repeat walk_at "rd3"
  refine ⟨h, 5, G1, rfl, E0.gh, h1, by omega, by omega, fun G2 H2 r E2 h2 r0 r1 => ?_⟩
  repeat walk_at "rd3"
  refine ⟨h, (1 + r).toNat, G2, by rw [show (((1 + r).toNat : Nat) : Int) = 1 + r by omega]; rfl, E2.gh, h2, by omega, fun G3 H3 vn ns E3 h3 hn lns nq dn => ?_⟩
  have n1 : 1 ≤ ns.length := by omega
  have n5 : ns.length ≤ 5 := by omega
  have pf : 2 ^ ns.length ≤ 2 ^ 5 := Nat.pow_le_pow_right (by decide) n5
  have p5 : (2 : Nat) ^ 5 = 32 := by decide
  have pw := Nat.two_pow_pos ns.length
  have lt13 : ns.length < 13 := by omega
  clear lns r0 r1
  repeat walk_at "rd3"
  refine ⟨vn, ns, G3, rfl, E3.gh, by omega, dn, fun G4 H4 vset E4 ds => ?_⟩
  obtain ⟨bs_, wset, rfl, eset, dset⟩ := ds.list_inv
  have lset := dset.len
  rw [List.length_map, SL_len] at lset
  have eHset := E4.gh _ _ eset
  have h4 := h3.pure E4
  obtain ⟨an, xn, rfl, en, dan⟩ := (dn.up E4.gg).list_inv
  have zn := dan.strs_inv
  subst zn
  have eHn := E4.gh _ _ en
  have lnn : (ns.map V.str).length = ns.length := List.length_map _
  repeat walk_at "rd3"
  rw [lset]
  refine ⟨line_le (by show 2 ≤ _; decide), fun pp npp => ?_⟩
  have gpp : G4 pp = none := E4.gh.free npp
  have EP : Ex [h] G4 H4 G4 (upd H4 pp (.lst [.bl true, .bl false])) := (Ex.refl E4.gh).new npp
  have npph : pp ≠ h := h4.dif npp
  have h5 := h4.wr (o := .lst [.bl true, .bl false]) npph
  have tnat : ((2 ^ ns.length : Nat) : Int).toNat = 2 ^ ns.length := by omega
  have rsm : ((2 ^ ns.length : Nat) : Int).toNat ≤ 100000 := by omega
  repeat walk_at "rd3"
  refine comp_bools (fun _ => true) EP.gh rsm (fun k G6 H6 hk E6 C' C'' hC => ?_) (fun G6 H6 D6 E6 dr6 => ?_)
  · refine ⟨rfl, lcYes ?_⟩
    exact hC G6 H6 (Ex.refl E6.gh)
  repeat walk_at "rd3"
  refine comp_bools (fun _ => false) E6.gh rsm (fun k G7 H7 hk E7 C' C'' hC => ?_) (fun G7 H7 D7 E7 dr7 => ?_)
  · refine ⟨rfl, lcYes ?_⟩
    exact hC G7 H7 (Ex.refl E7.gh)
  rw [tnat] at dr6 dr7
  repeat walk_at "rd3"
  refine ⟨line_le (by show 2 ≤ _; decide), fun pr npr => ?_⟩
  have E67 := E6.trans E7
  have gpr : G7 pr = none := E7.gh.free npr
  have gpp7 := E67.out gpp (upd_same (H := H4) (a := pp))
  have hpp7 := E67.same _ _ (upd_same (H := H4) (a := pp) (o := .lst [.bl true, .bl false]))
  have nprpp : pp ≠ pr := ne_of_none hpp7 npr
  have h7 := h5.pure E67
  have nprh : pr ≠ h := h7.dif npr
  have E4' : Ex [h] G4 H4 G7 (upd H7 pr (.lst [.ref D6, .ref D7])) := (EP.trans E67.of0).new npr
  have h8 := h7.wr (o := .lst [.ref D6, .ref D7]) nprh
  have po0 : Pool G7 (upd H7 pr (.lst [.ref D6, .ref D7])) ns pp pr [.b true, .b false] [(List.range (2 ^ ns.length)).map fun _ => true, (List.range (2 ^ ns.length)).map fun _ => false] := by
    refine ⟨⟨_, by rw [upd_ne nprpp]; exact hpp7, .cons (.bl _) (.cons (.bl _) .nil)⟩, ⟨_, upd_same, .cons (dr6.up E7.gg) (.cons dr7 .nil)⟩, rfl, Nat.le_refl _, by show 2 ≤ 100; decide, fun i c row e1 e2 => ?_⟩
    match i, e1, e2 with
    | 0, e1, e2 => cases e1; cases e2; exact rep_of (.leaf _) _ fun k _ => rfl
    | 1, e1, e2 => cases e1; cases e2; exact rep_of (.leaf _) _ fun k _ => rfl
  have H4n : H4 pr = none := EP.free (E67.free npr)
  have n_an_h0 : an ≠ h := fun k => by rw [k, h4.g] at en; cases en
  have eHn0 := E4'.at_ eHn (by simpa using n_an_h0)
  repeat walk_at "rd3"
  -- what holds in the loops
  refine for_range (lo := 0) (n := (((ns.map V.str).length : Nat) : Int).toNat) (fun i σ H' => ∃ (G' : Hp) (y8 : Option V) (cs : List C) (rows : List (List Bool)), σ = [some (.ref a), some (.ref h), some (.ref an), some (.ref bs_), some (.int (2 ^ ns.length : Nat)), some (.ref pp), some (.ref pr), none, y8, none, none, none, none, none, none] ∧ Ex [h] G4 H4 G' H' ∧ Hand G' H' h ∧ G' pp = none ∧ G' pr = none ∧ Pool G' H' ns pp pr cs rows ∧ cs.length = 2 + i)
    ⟨G7, none, _, _, rfl, E4', h8, gpp7, gpr, po0, rfl⟩ (fun i σ H' hi hp => ?_) (fun σ H' hp => ?_)
  · obtain ⟨G', y8, cs, rows, rfl, E, hh, g1, g2, po, lcs⟩ := hp
    have hi2 : i < ns.length := by omega
    have hz : ns[i]? = some ns[i] := List.getElem?_eq_getElem hi2
    have hzm : ns[i] ∈ ns := List.getElem_mem hi2
    have eat : (ns.map V.str)[(0 + (i : Int)).toNat]? = some (.str ns[i]) := by rw [show (0 + (i : Int)).toNat = i by omega, List.getElem?_map, hz]; rfl
    generalize ns[i] = z at hz hzm eat
    obtain ⟨vs, ep, dp⟩ := po.p
    obtain ⟨ws, er, dw⟩ := po.r
    have lv := dp.len
    have lw := dw.len
    rw [List.length_map] at lv lw
    have plen := po.len
    have n_an_h : an ≠ h := fun k => by rw [k, h4.g] at en; cases en
    have eHn' := E.at_ eHn (by simpa using n_an_h)
    repeat walk_at "rd3"
    refine ixL eHn' (by omega) eat ?_
    repeat walk_at "rd3"
    refine ⟨z, G', rfl, E.gh, fun G9 H9 r9 E9 k9 => ?_⟩
    have ep9 := E9.same _ _ ep
    have er9 := E9.same _ _ er
    have g19 := E9.out g1 ep
    have g29 := E9.out g2 er
    have hh9 := hh.pure E9
    repeat walk_at "rd3"
    refine appL ep9 (line_lt (by omega)) ?_
    have Ea : Ex [h] G4 H4 G9 (upd H9 pp (.lst (vs ++ [r9]))) := (E.trans E9.of0).wr g19 (.inr npp)
    have hha := hh9.wr (o := .lst (vs ++ [r9])) npph
    have era : (upd H9 pp (.lst (vs ++ [r9]))) pr = some (.lst ws) := by rw [upd_ne nprpp.symm]; exact er9
    repeat walk_at "rd3"
    refine comp_bools (fun k => asg ns k z) Ea.gh rsm (fun k G6 H6 hk E6 C' C'' hC => ?_) (fun G6 H6 D6 E6 dr6 => ?_)
    · have hk2 : k < 2 ^ ns.length := by omega
      refine ⟨rfl, lcYes ?_⟩
      repeat walk_at "rd3"
      refine ⟨k, ns.length, i, true, by rw [show (0 + (k : Int)) = (k : Int) by omega, show (0 + (i : Int)) = (i : Int) by omega]; rfl, hi2, by omega, hk2, ?_⟩
      repeat walk_at "rd3"
      have key : (((tn (2 ^ (ns.length - 1 - i)) k true : Nat) : Int) == 0 + (k : Int)) = asg ns k z := by
        have e1 := asg_tn hn.nd hz k true z hzm
        have e2 : fset (asg ns k) z true z = true := by simp [fset]
        rw [Bool.eq_iff_iff, beq_iff_eq]
        constructor
        · intro e
          have e3 : tn (2 ^ (ns.length - 1 - i)) k true = k := by omega
          rw [e3, e2] at e1
          exact e1
        · intro e
          rw [asg_at hn.nd hz, decide_eq_true_iff] at e
          unfold tn
          have lt : 2 ^ (ns.length - 1 - i) ≤ k := Classical.byContradiction fun w => by
            rw [Nat.div_eq_of_lt (by omega)] at e
            cases e
          rw [if_pos e]
          simp only [if_true]
          omega
      rw [key]
      exact hC G6 H6 (Ex.refl E6.gh)
    rw [tnat] at dr6
    have er6 := E6.same _ _ era
    have ep6 := E6.same _ _ (upd_same (H := H9) (a := pp) (o := .lst (vs ++ [r9])))
    have g26 := E6.out g29 era
    have g16 := E6.out g19 (upd_same (H := H9) (a := pp) (o := .lst (vs ++ [r9])))
    have hh6 := hha.pure E6
    repeat walk_at "rd3"
    refine appL er6 (line_lt (by omega)) ?_
    have Eb : Ex [h] G4 H4 G6 (upd H6 pr (.lst (ws ++ [.ref D6]))) := (Ea.trans E6.of0).wr g26 (.inr H4n)
    have hhb := hh6.wr (o := .lst (ws ++ [.ref D6])) nprh
    have oz : OC ns (C.nd z (.b true) (.b false)) := by
      obtain ⟨pre, ys, rfl⟩ := List.append_of_mem hzm
      exact (OC.node (.leaf _) (.leaf _) (fun e => by cases e)).app pre
    have k6 := (k9.up E6.gg)
    have epb : (upd H6 pr (.lst (ws ++ [.ref D6]))) pp = some (.lst (vs ++ [r9])) := by rw [upd_ne nprpp]; exact ep6
    have pob : Pool G6 (upd H6 pr (.lst (ws ++ [.ref D6]))) ns pp pr (cs ++ [.nd z (.b true) (.b false)]) (rows ++ [_]) := po.push epb ((dp.up E9.gg).up E6.gg) k6 upd_same ((dw.up E9.gg).up E6.gg) dr6 (rep_of oz _ fun k hk => by show (if asg ns k z then true else false) = asg ns k z; cases asg ns k z <;> rfl) (by omega)
    have eHnb := Eb.at_ eHn (by simpa using n_an_h)
    repeat walk_at "rd3"
    refine ixLast epb ?_
    repeat walk_at "rd3"
    refine ixL eHnb (by omega) eat ?_
    repeat walk_at "rd3"
    refine ⟨line_le (by show 3 ≤ _; decide), fun p3 n3 => ?_⟩
    obtain ⟨tz, dz⟩ := tame_enc oz hn
    have Ec := Eb.dat (o := .tup [.str z, .bl true, .bl false]) n3
    have gp3 := Eb.gh.free n3
    repeat walk_at "rd3"
    refine ⟨r9, .ref p3, (C.nd z (.b true) (.b false)).enc, _, rfl, Ec.gh, k6.up (same_updG gp3), Dat.newT (.cons (.str z) (.cons (.bl _) (.cons (.bl _) .nil))) gp3, tz, dz, fun G8 H8 E8 => ?_⟩
    repeat walk_at "rd3"
    have Ed := Ec.trans E8.of0
    have E68 : Ex [] G6 (upd H6 pr (.lst (ws ++ [.ref D6]))) G8 H8 := ((Ex.refl (M := []) Eb.gh).dat n3).trans E8
    exact ⟨G8, _, _, _, rfl, Ed, hhb.pure E68, E68.out g16 epb, E68.out g26 upd_same, pob.up E68 (fun z => nomatch z) (fun z => nomatch z), by rw [List.length_append, lcs]; rfl⟩
  · obtain ⟨G', y8, cs, rows, rfl, E, hh, g1, g2, po, lcs⟩ := hp
    have lcs' : cs.length ≤ 10 := by omega
    clear lcs
    have eHsetE := E.gh _ _ (E.gg _ _ eset)
    repeat walk_at "rd3"
    refine ⟨h, 12, G', rfl, E.gh, hh, by omega, by omega, fun G0 H0 rr E0 hh0 rr0 rr1 => ?_⟩
    have E' := E.trans E0
    have g1' := E0.out g1 po.p.choose_spec.1
    have g2' := E0.out g2 po.r.choose_spec.1
    have po' := po.up E0 (by simpa using npph) (by simpa using nprh)
    repeat walk_at "rd3"
    refine for_range (lo := 0) (n := (4 + rr).toNat) (fun i σ H' => ∃ (G' : Hp) (y7 y8 y9 y10 y11 y12 y13 y14 : Option V) (cs : List C) (rows : List (List Bool)), σ = [some (.ref a), some (.ref h), some (.ref an), some (.ref bs_), some (.int (2 ^ ns.length : Nat)), some (.ref pp), some (.ref pr), y7, y8, y9, y10, y11, y12, y13, y14] ∧ Ex [h] G4 H4 G' H' ∧ Hand G' H' h ∧ G' pp = none ∧ G' pr = none ∧ Pool G' H' ns pp pr cs rows ∧ cs.length ≤ 10 + i)
      ⟨G0, none, _, none, none, none, none, none, none, cs, rows, rfl, E', hh0, g1', g2', po', lcs'⟩ (fun i σ H' hi hp => ?_) (fun σ H' hp => ?_)
    · clear E hh g1 g2 po lcs' eHsetE E' g1' g2' po' hh0 E0
      obtain ⟨G', y7, y8, y9, y10, y11, y12, y13, y14, cs, rows, rfl, E, hh, g1, g2, po, lcs⟩ := hp
      have dnE : Dat G' (.ref an) (strsD ns) := .lst (E.gg _ _ en) (DatA.strs ns)
      have dsE : Dat G' (.ref bs_) (.list ((SL ns).map strsD)) := .lst (E.gg _ _ eset) (dset.up E.gg)
      repeat walk_at "rd3"
      refine ⟨h, .ref an, pp, pr, ns, cs, rows, G', rfl, E.gh, hh, hn, n1, n5, dnE, po, npph, nprh, fun G5 H5 p5_ vc vr c row E5 hh5 rp5 ep5 dc5 dr5 => ?_⟩
      have eHp5 := E5.gh _ _ ep5
      have po5 := po.up E5 (by simpa using npph) (by simpa using nprh)
      have E1 := E.trans E5
      have g15 := E5.out g1 po.p.choose_spec.1
      have g25 := E5.out g2 po.r.choose_spec.1
      refine ⟨p5_, [vc, vr], rfl, SqT.of eHp5, rfl, vc, [vr], rfl, vr, [], rfl, rfl, ?_⟩
      repeat walk_at "rd3"
      refine ⟨h, .ref an, .ref bs_, vc, vr, ns, c, row, G5, rfl, E5.gh, hh5, hn, n5, nq, dnE.up E5.gg, dsE.up E5.gg, rp5, dc5, dr5, fun G6 H6 E6 hh6 => ?_⟩
      have po6 := po5.up E6 (by simpa using npph) (by simpa using nprh)
      have E2 := E1.trans E6
      have g16 := E6.out g15 po5.p.choose_spec.1
      have g26 := E6.out g25 po5.r.choose_spec.1
      obtain ⟨vs, ep, dp⟩ := po6.p
      obtain ⟨ws, er, dw⟩ := po6.r
      have lv := dp.len
      have lw := dw.len
      rw [List.length_map] at lv lw
      have plen := po6.len
      have dc6 := dc5.up E6.gg
      have dr6 := dr5.up E6.gg
      repeat walk_at "rd3"
      refine appL ep (line_lt (by omega)) ?_
      have er7 : (upd H6 pp (.lst (vs ++ [vc]))) pr = some (.lst ws) := by rw [upd_ne nprpp.symm]; exact er
      repeat walk_at "rd3"
      refine appL er7 (line_lt (by omega)) ?_
      have E7 : Ex [h] G4 H4 G6 (upd (upd H6 pp (.lst (vs ++ [vc]))) pr (.lst (ws ++ [vr]))) := (E2.wr g16 (.inr npp)).wr g26 (.inr H4n)
      have hh7 := (hh6.wr (o := .lst (vs ++ [vc])) npph).wr (o := .lst (ws ++ [vr])) nprh
      have ep7 : (upd (upd H6 pp (.lst (vs ++ [vc]))) pr (.lst (ws ++ [vr]))) pp = some (.lst (vs ++ [vc])) := by rw [upd_ne nprpp, upd_same]
      have po7 : Pool G6 (upd (upd H6 pp (.lst (vs ++ [vc]))) pr (.lst (ws ++ [vr]))) ns pp pr (cs ++ [c]) (rows ++ [row]) := po6.push ep7 dp dc6 upd_same dw dr6 rp5 (by omega)
      have lcs7 : (cs ++ [c]).length ≤ 10 + (i + 1) := by rw [List.length_append]; show cs.length + 1 ≤ _; omega
      have lv7 : (vs ++ [vc]).length = (cs ++ [c]).length := by rw [List.length_append, List.length_append, lv]; rfl
      generalize upd (upd H6 pp (.lst (vs ++ [vc]))) pr (.lst (ws ++ [vr])) = H7 at *
      generalize vs ++ [vc] = vs7 at *
      generalize hcs7 : cs ++ [c] = cs7 at *
      generalize hrows7 : rows ++ [row] = rows7 at *
      clear po6 po5 po E E1 E2 hh hh5 hh6 ep er
      repeat walk_at "rd3"
      have lo7 := po7.lo
      refine ⟨h, _, G6, rfl, E7.gh, hh7, by omega, by omega, fun G8 H8 o E8 hh8 o0 o1 => ?_⟩
      have po8 := po7.up E8 (by simpa using npph) (by simpa using nprh)
      obtain ⟨c2, row2, vs2, ws2, u2, x2, rp2, ep2, eu2, du2, er2, ex2, gx2⟩ := po8.get (i := o) o0 (by omega)
      have hx2 := E8.gh _ _ gx2
      have dc8 := dc6.up E8.gg
      obtain ⟨xr, wr, rfl, exr, dwr⟩ := (dr6.up E8.gg).list_inv
      have zr := dwr.bls_inv
      subst zr
      have hxr := E8.gh _ _ exr
      have g18 := E8.out g16 ep7
      have g28 := E8.out g26 po7.r.choose_spec.1
      repeat walk_at "rd3"
      refine comp_goD (M := []) (fun k acc G' H' => (acc = [] ↔ ∀ j, j < k → c.ev (asg ns j) = true → c2.ev (asg ns j) = true)) walk_range E8.gh (line_lt rsm) (fun m hm => nomatch hm) (fun _ _ _ => trivial) ⟨fun _ j hj => absurd hj (Nat.not_lt_zero j), fun _ => rfl⟩ (fun i acc G' H' D o hp n1 n2 => hp) (fun i acc G' H' D o hp n1 n2 => hp)
          (fun k acc G9 H9 hk E9 hp C' C'' hC hC' => ?_) (fun G9 H9 D acc E9 dr9 hacc hp => ?_)
      · have hk2 : k < 2 ^ ns.length := by omega
        have hxr9 := E9.same _ _ hxr
        have hx29 := E9.same _ _ hx2
        have er29 := E9.same _ _ er2
        refine ⟨rfl, ?_⟩
        repeat walk_at "rd3"
        refine ixL hxr9 (by omega) (row_at rp5 hk2) ?_
        repeat walk_at "rd3"
        have no' : (c.ev (asg ns k) = true → c2.ev (asg ns k) = true) → C'' H9 := fun e => by
          refine hC' G9 H9 (Ex.refl E9.gh) ?_
          rw [hp]
          refine ⟨fun h j hj => ?_, fun h j hj => h j (Nat.lt_succ_of_lt hj)⟩
          by_cases ej : j = k
          · rw [ej]; exact e
          · exact h j (by omega)
        have yes' : ¬ (c.ev (asg ns k) = true → c2.ev (asg ns k) = true) → C' (.int (0 + (k : Int))) H9 := fun e => by
          refine hC _ G9 H9 (.int (0 + (k : Int))) (Ex.refl E9.gh) (.int _) ⟨fun h => ?_, fun h => absurd (h k (Nat.lt_succ_self k)) e⟩
          simp at h
        refine ite2 (fun e1 => ?_) (fun e1 => ?_)
        · repeat walk_at "rd3"
          refine ixL er29 o0 ex2 ?_
          repeat walk_at "rd3"
          refine ixL hx29 (by omega) (row_at rp2 hk2) ?_
          repeat walk_at "rd3"
          cases e2 : c2.ev (asg ns k) with
          | true =>
            repeat walk_at "rd3"
            exact no' fun _ => e2
          | false =>
            repeat walk_at "rd3"
            exact yes' fun z => by have := z e1; rw [e2] at this; cases this
        · repeat walk_at "rd3"
          exact no' fun z => absurd z e1
      obtain ⟨b3, ws3, er3, eb3, db3⟩ := dr9.list_inv
      cases er3
      have eHd := E9.gh _ _ eb3
      have l3 := db3.len
      have ep29 := E9.same _ _ ep2
      repeat walk_at "rd3"
      refine ixL ep29 o0 eu2 ?_
      repeat walk_at "rd3"
      refine ⟨vc, u2, ns, c, c2, G9, rfl, E9.gh, hn, rp5.oc, rp2.oc, lt13, dc8.up E9.gg, du2.up E9.gg, fun G10 H10 b E10 hb => ?_⟩
      have due : b = ((((ws3.length : Nat) : Int)) == 0) := by
        rw [Bool.eq_iff_iff, hb, beq_iff_eq, l3]
        have key : acc = [] ↔ ∀ f, c.ev f = true → c2.ev f = true := by
          rw [hp]
          constructor
          · intro e f
            rw [ev_idx rp5.oc hn.nd, ev_idx rp2.oc hn.nd]
            have := idx_lt ns f
            exact e _ (by omega)
          · intro e j hj
            exact e _
        rw [← key]
        constructor
        · intro e; rw [e]; rfl
        · intro e; exact List.eq_nil_of_length_eq_zero (by omega)
      repeat walk_at "rd3"
      refine ⟨_, _, .bool b, G10, rfl, E10.gh, .bl _, by rw [← due]; exact .bl _, rfl, by show 0 < 13; decide, fun G11 H11 E11 => ?_⟩
      have Ef : Ex [] G8 H8 G11 H11 := (E9.trans E10).trans E11
      repeat walk_at "rd3"
      exact ⟨G11, _, _, _, _, _, _, _, _, cs7, rows7, rfl, (E7.trans E8).trans Ef.of0, hh8.pure Ef, Ef.out g18 ep2, Ef.out g28 er2, po8.up Ef (fun z => nomatch z) (fun z => nomatch z), lcs7⟩
    · clear E hh g1 g2 po lcs' eHsetE E' g1' g2' po' hh0 E0
      obtain ⟨G', y7, y8, y9, y10, y11, y12, y13, y14, cs, rows, rfl, E, hh, g1, g2, po, lcs⟩ := hp
      have lo := po.lo
      have hi := po.hi
      obtain ⟨vs, ep, dp⟩ := po.p
      obtain ⟨ws, er, dw⟩ := po.r
      have plen := po.len
      -- the last ones
      obtain ⟨cs', c, ecs⟩ := List.eq_nil_or_concat cs |>.resolve_left (fun z => by rw [z] at lo; exact absurd lo (by decide))
      obtain ⟨rows', row, erows⟩ := List.eq_nil_or_concat rows |>.resolve_left (fun z => by rw [z] at plen; rw [plen] at lo; exact absurd lo (by decide))
      rw [List.concat_eq_append] at ecs erows
      subst ecs
      subst erows
      have rp : Rep ns c row := by
        rw [List.length_append, List.length_append] at plen
        have e : cs'.length = rows'.length := by simpa using plen
        refine po.rep cs'.length c row (by rw [List.getElem?_append_right (Nat.le_refl _), Nat.sub_self]; rfl) (by rw [e, List.getElem?_append_right (Nat.le_refl _), Nat.sub_self]; rfl)
      rw [List.map_append] at dp dw
      obtain ⟨vs', vc, rfl, dp', dc⟩ := dp.last
      obtain ⟨ws', vr, rfl, dw', dr⟩ := dw.last
      obtain ⟨xr, wr, rfl, exr, dwr⟩ := dr.list_inv
      have zr := dwr.bls_inv
      subst zr
      have hxr := E.gh _ _ exr
      have eHsetE := E.gh _ _ (E.gg _ _ eset)
      repeat walk_at "rd3"
      refine for_range (lo := 0) (n := ((2 ^ ns.length : Nat) : Int).toNat) (fun i σ H'' => ∃ (G'' : Hp) (y7 y8 y9 y10 y11 y12 y13 y14 : Option V), σ = [some (.ref a), some (.ref h), some (.ref an), some (.ref bs_), some (.int (2 ^ ns.length : Nat)), some (.ref pp), some (.ref pr), y7, y8, y9, y10, y11, y12, y13, y14] ∧ Ex [] G' H' G'' H'')
        ⟨G', y7, y8, y9, y10, y11, y12, y13, y14, rfl, Ex.refl E.gh⟩ (fun i σ H'' hi hp => ?_) (fun σ H'' hp => ?_)
      · obtain ⟨G'', y7, y8, y9, y10, y11, y12, y13, y14, rfl, E2⟩ := hp
        have hk : i < 2 ^ ns.length := by omega
        have hk' : i < (SL ns).length := by rw [SL_len]; exact hk
        have hSL : (SL ns)[i]? = some (SL ns)[i] := List.getElem?_eq_getElem hk'
        have i0 : (0 + (i : Int)).toNat = i := by omega
        obtain ⟨u, gu, du⟩ := dset.get (i := i) (d := strsD (SL ns)[i]) (by rw [List.getElem?_map, hSL]; rfl)
        obtain ⟨bu, wu, rfl, ebu, dbu⟩ := ((du.up E.gg).up E2.gg).list_inv
        have zu := dbu.strs_inv
        subst zu
        have fewl := (SL_few (List.getElem_mem hk')).1
        have ep2 := E2.same _ _ ep
        have er2 := E2.same _ _ er
        have hxr2 := E2.same _ _ hxr
        have eHs2 := E2.same _ _ eHsetE
        have eHb2 := E2.gh _ _ ebu
        repeat walk_at "rd3"
        refine ixLast ep2 ?_
        repeat walk_at "rd3"
        refine ixL eHs2 (by omega) (by rw [i0]; exact gu) ?_
        repeat walk_at "rd3"
        refine .inl ⟨bu, _, rfl, .inl (SqL.of eHb2), fun p1 n1 => ?_⟩
        have E3 := E2.dat (o := .lst ((SL ns)[i].map V.str)) n1
        have er3 := E3.same _ _ er
        have hxr3 := E3.same _ _ hxr
        repeat walk_at "rd3"
        refine ⟨vc, .ref p1, (SL ns)[i], c, _, rfl, E3.gh, ⟨p1, rfl, .inl upd_same⟩, dc.up E3.gg, ?_⟩
        rw [ev_SL' hn.nd hSL rp.oc]
        repeat walk_at "rd3"
        refine ixLast er3 ?_
        repeat walk_at "rd3"
        refine ixL hxr3 (by omega) (row_at rp hk) ?_
        repeat walk_at "rd3"
        refine ⟨_, _, .bool (c.ev (asg ns i)), _, rfl, E3.gh, .bl _, .bl _, rfl, by show 0 < 13; decide, fun G9 H9 E9 => ?_⟩
        repeat walk_at "rd3"
        exact ⟨G9, _, _, _, _, _, _, _, _, rfl, E3.trans E9⟩
      · obtain ⟨G'', y7, y8, y9, y10, y11, y12, y13, y14, rfl, E2⟩ := hp
        have ep2 := E2.same _ _ ep
        have dnE : Dat G'' (.ref an) (strsD ns) := .lst (E2.gg _ _ (E.gg _ _ en)) (DatA.strs ns)
        have q9ok : PyData.strOk (Str.ofString "Q9") = true := by decide +kernel
        repeat walk_at "rd3"
        refine ixLast ep2 ?_
        repeat walk_at "rd3"
        refine ⟨vc, Str.ofString "Q9", true, ns, c, G'', rfl, E2.gh, hn, rp.oc, lt13, q9ok, dc.up E2.gg, fun G3 H3 r3 e3 E3 o3 w3 k3 => ?_⟩
        have ec : e3 = c := OC.uniq hn.nd o3 rp.oc fun f => by rw [w3, rp.oc.ev_fset nq]
        subst ec
        have E23 := E2.trans E3
        have er3 := E23.same _ _ er
        repeat walk_at "rd3"
        refine ixLast er3 ?_
        repeat walk_at "rd3"
        refine ⟨.ref an, .ref xr, ns, row, G3, rfl, E3.gh, hn, rp.len, lt13, dnE.up E3.gg, dr.up E23.gg, fun G4' H4' r4 c4 E4' rp4 k4 => ?_⟩
        have ec : c4 = e3 := rp4.uniq hn.nd rp
        subst ec
        obtain ⟨tc, dpc⟩ := tame_enc rp.oc hn
        repeat walk_at "rd3"
        exact ⟨r3, r4, c4.enc, G4', rfl, E4'.gh, k3.up E4'.gg, k4, tc, dpc, fun G5 H5 E5 => q H5⟩
end
section
theorem tp_mk {K : PySem.W.Frag} {h : Heap} {mg : Str → Option Value} {fa : Addr} (X : K.In h) (G : h.Ns mainGlobals mg) (hfa : mg "law" = some (.ref fa))
    {f0 : Addr} {od0 an0 : Option Addr} {sl0 : Array (Option Value)} {oc0 kV0 dc0 pm0 cd0 ct0 : Value}
    (a0 : PySem.W.nsIn K mainGlobals "switch_condition" = some (some (.ref f0))) (l0 : K.lookup f0 = some ⟨oc0, od0, .func (PySem.W.fnOf "switch_condition" "switch_condition" (defArgs s_switch_condition) (defBody s_switch_condition) (defScope s_switch_condition) .none kV0 dc0 pm0 an0 cd0 ct0), sl0⟩) (c0 : PySem.W.codeIn K cd0 "switch_condition" = true) (k0 : PySem.W.keepIn K (.ref f0) = true)
    {f1 : Addr} {od1 an1 : Option Addr} {sl1 : Array (Option Value)} {oc1 kV1 dc1 pm1 cd1 ct1 : Value}
    (a1 : PySem.W.nsIn K mainGlobals "formed" = some (some (.ref f1))) (l1 : K.lookup f1 = some ⟨oc1, od1, .func (PySem.W.fnOf "formed" "formed" (defArgs s_formed) (defBody s_formed) (defScope s_formed) .none kV1 dc1 pm1 an1 cd1 ct1), sl1⟩) (c1 : PySem.W.codeIn K cd1 "formed" = true) (k1 : PySem.W.keepIn K (.ref f1) = true)
    {f2 : Addr} {od2 an2 : Option Addr} {sl2 : Array (Option Value)} {oc2 kV2 dc2 pm2 cd2 ct2 : Value}
    (a2 : PySem.W.nsIn K mainGlobals "side_of" = some (some (.ref f2))) (l2 : K.lookup f2 = some ⟨oc2, od2, .func (PySem.W.fnOf "side_of" "side_of" (defArgs s_side_of) (defBody s_side_of) (defScope s_side_of) .none kV2 dc2 pm2 an2 cd2 ct2), sl2⟩) (c2 : PySem.W.codeIn K cd2 "side_of" = true) (k2 : PySem.W.keepIn K (.ref f2) = true)
    {f3 : Addr} {od3 an3 : Option Addr} {sl3 : Array (Option Value)} {oc3 kV3 dc3 pm3 cd3 ct3 : Value}
    (a3 : PySem.W.nsIn K mainGlobals "no" = some (some (.ref f3))) (l3 : K.lookup f3 = some ⟨oc3, od3, .func (PySem.W.fnOf "no" "no" (defArgs s_no) (defBody s_no) (defScope s_no) .none kV3 dc3 pm3 an3 cd3 ct3), sl3⟩) (c3 : PySem.W.codeIn K cd3 "no" = true) (k3 : PySem.W.keepIn K (.ref f3) = true)
    {f4 : Addr} {od4 an4 : Option Addr} {sl4 : Array (Option Value)} {oc4 kV4 dc4 pm4 cd4 ct4 : Value}
    (a4 : PySem.W.nsIn K mainGlobals "both" = some (some (.ref f4))) (l4 : K.lookup f4 = some ⟨oc4, od4, .func (PySem.W.fnOf "both" "both" (defArgs s_both) (defBody s_both) (defScope s_both) .none kV4 dc4 pm4 an4 cd4 ct4), sl4⟩) (c4 : PySem.W.codeIn K cd4 "both" = true) (k4 : PySem.W.keepIn K (.ref f4) = true)
    {f5 : Addr} {od5 an5 : Option Addr} {sl5 : Array (Option Value)} {oc5 kV5 dc5 pm5 cd5 ct5 : Value}
    (a5 : PySem.W.nsIn K mainGlobals "either" = some (some (.ref f5))) (l5 : K.lookup f5 = some ⟨oc5, od5, .func (PySem.W.fnOf "either" "either" (defArgs s_either) (defBody s_either) (defScope s_either) .none kV5 dc5 pm5 an5 cd5 ct5), sl5⟩) (c5 : PySem.W.codeIn K cd5 "either" = true) (k5 : PySem.W.keepIn K (.ref f5) = true)
    {f6 : Addr} {od6 an6 : Option Addr} {sl6 : Array (Option Value)} {oc6 kV6 dc6 pm6 cd6 ct6 : Value}
    (a6 : PySem.W.nsIn K mainGlobals "but_not" = some (some (.ref f6))) (l6 : K.lookup f6 = some ⟨oc6, od6, .func (PySem.W.fnOf "but_not" "but_not" (defArgs s_but_not) (defBody s_but_not) (defScope s_but_not) .none kV6 dc6 pm6 an6 cd6 ct6), sl6⟩) (c6 : PySem.W.codeIn K cd6 "but_not" = true) (k6 : PySem.W.keepIn K (.ref f6) = true)
    {f7 : Addr} {od7 an7 : Option Addr} {sl7 : Array (Option Value)} {oc7 kV7 dc7 pm7 cd7 ct7 : Value}
    (a7 : PySem.W.nsIn K mainGlobals "switched" = some (some (.ref f7))) (l7 : K.lookup f7 = some ⟨oc7, od7, .func (PySem.W.fnOf "switched" "switched" (defArgs s_switched) (defBody s_switched) (defScope s_switched) .none kV7 dc7 pm7 an7 cd7 ct7), sl7⟩) (c7 : PySem.W.codeIn K cd7 "switched" = true) (k7 : PySem.W.keepIn K (.ref f7) = true)
    {f8 : Addr} {od8 an8 : Option Addr} {sl8 : Array (Option Value)} {oc8 kV8 dc8 pm8 cd8 ct8 : Value}
    (a8 : PySem.W.nsIn K mainGlobals "fixed" = some (some (.ref f8))) (l8 : K.lookup f8 = some ⟨oc8, od8, .func (PySem.W.fnOf "fixed" "fixed" (defArgs s_fixed) (defBody s_fixed) (defScope s_fixed) .none kV8 dc8 pm8 an8 cd8 ct8), sl8⟩) (c8 : PySem.W.codeIn K cd8 "fixed" = true) (k8 : PySem.W.keepIn K (.ref f8) = true)
    {f9 : Addr} {od9 an9 : Option Addr} {sl9 : Array (Option Value)} {oc9 kV9 dc9 pm9 cd9 ct9 : Value}
    (a9 : PySem.W.nsIn K mainGlobals "holds" = some (some (.ref f9))) (l9 : K.lookup f9 = some ⟨oc9, od9, .func (PySem.W.fnOf "holds" "holds" (defArgs s_holds) (defBody s_holds) (defScope s_holds) .none kV9 dc9 pm9 an9 cd9 ct9), sl9⟩) (c9 : PySem.W.codeIn K cd9 "holds" = true) (k9 : PySem.W.keepIn K (.ref f9) = true)
    {f10 : Addr} {od10 an10 : Option Addr} {sl10 : Array (Option Value)} {oc10 kV10 dc10 pm10 cd10 ct10 : Value}
    (a10 : PySem.W.nsIn K mainGlobals "implies" = some (some (.ref f10))) (l10 : K.lookup f10 = some ⟨oc10, od10, .func (PySem.W.fnOf "implies" "implies" (defArgs s_implies) (defBody s_implies) (defScope s_implies) .none kV10 dc10 pm10 an10 cd10 ct10), sl10⟩) (c10 : PySem.W.codeIn K cd10 "implies" = true) (k10 : PySem.W.keepIn K (.ref f10) = true)
    {f11 : Addr} {od11 an11 : Option Addr} {sl11 : Array (Option Value)} {oc11 kV11 dc11 pm11 cd11 ct11 : Value}
    (a11 : PySem.W.nsIn K mainGlobals "switches_of" = some (some (.ref f11))) (l11 : K.lookup f11 = some ⟨oc11, od11, .func (PySem.W.fnOf "switches_of" "switches_of" (defArgs s_switches_of) (defBody s_switches_of) (defScope s_switches_of) .none kV11 dc11 pm11 an11 cd11 ct11), sl11⟩) (c11 : PySem.W.codeIn K cd11 "switches_of" = true) (k11 : PySem.W.keepIn K (.ref f11) = true)
    {f12 : Addr} {od12 an12 : Option Addr} {sl12 : Array (Option Value)} {oc12 kV12 dc12 pm12 cd12 ct12 : Value}
    (a12 : PySem.W.nsIn K mainGlobals "_law_stirred" = some (some (.ref f12))) (l12 : K.lookup f12 = some ⟨oc12, od12, .func (PySem.W.fnOf "_law_stirred" "_law_stirred" (defArgs s_stirred) (defBody s_stirred) (defScope s_stirred) .none kV12 dc12 pm12 an12 cd12 ct12), sl12⟩) (c12 : PySem.W.codeIn K cd12 "_law_stirred" = true) (k12 : PySem.W.keepIn K (.ref f12) = true)
    {f13 : Addr} {od13 an13 : Option Addr} {sl13 : Array (Option Value)} {oc13 kV13 dc13 pm13 cd13 ct13 : Value}
    (a13 : PySem.W.nsIn K mainGlobals "_law_take" = some (some (.ref f13))) (l13 : K.lookup f13 = some ⟨oc13, od13, .func (PySem.W.fnOf "_law_take" "_law_take" (defArgs s_take) (defBody s_take) (defScope s_take) .none kV13 dc13 pm13 an13 cd13 ct13), sl13⟩) (c13 : PySem.W.codeIn K cd13 "_law_take" = true) (k13 : PySem.W.keepIn K (.ref f13) = true)
    {f14 : Addr} {od14 an14 : Option Addr} {sl14 : Array (Option Value)} {oc14 kV14 dc14 pm14 cd14 ct14 : Value}
    (a14 : PySem.W.nsIn K mainGlobals "_law_turned" = some (some (.ref f14))) (l14 : K.lookup f14 = some ⟨oc14, od14, .func (PySem.W.fnOf "_law_turned" "_law_turned" (defArgs s_turned) (defBody s_turned) (defScope s_turned) .none kV14 dc14 pm14 an14 cd14 ct14), sl14⟩) (c14 : PySem.W.codeIn K cd14 "_law_turned" = true) (k14 : PySem.W.keepIn K (.ref f14) = true)
    {f15 : Addr} {od15 an15 : Option Addr} {sl15 : Array (Option Value)} {oc15 kV15 dc15 pm15 cd15 ct15 : Value}
    (a15 : PySem.W.nsIn K mainGlobals "_law_bits" = some (some (.ref f15))) (l15 : K.lookup f15 = some ⟨oc15, od15, .func (PySem.W.fnOf "_law_bits" "_law_bits" (defArgs s_bits) (defBody s_bits) (defScope s_bits) .none kV15 dc15 pm15 an15 cd15 ct15), sl15⟩) (c15 : PySem.W.codeIn K cd15 "_law_bits" = true) (k15 : PySem.W.keepIn K (.ref f15) = true)
    {f16 : Addr} {od16 an16 : Option Addr} {sl16 : Array (Option Value)} {oc16 kV16 dc16 pm16 cd16 ct16 : Value}
    (a16 : PySem.W.nsIn K mainGlobals "_law_form" = some (some (.ref f16))) (l16 : K.lookup f16 = some ⟨oc16, od16, .func (PySem.W.fnOf "_law_form" "_law_form" (defArgs s_form) (defBody s_form) (defScope s_form) .none kV16 dc16 pm16 an16 cd16 ct16), sl16⟩) (c16 : PySem.W.codeIn K cd16 "_law_form" = true) (k16 : PySem.W.keepIn K (.ref f16) = true)
    {f17 : Addr} {od17 an17 : Option Addr} {sl17 : Array (Option Value)} {oc17 kV17 dc17 pm17 cd17 ct17 : Value}
    (a17 : PySem.W.nsIn K mainGlobals "_law_whole" = some (some (.ref f17))) (l17 : K.lookup f17 = some ⟨oc17, od17, .func (PySem.W.fnOf "_law_whole" "_law_whole" (defArgs s_whole) (defBody s_whole) (defScope s_whole) .none kV17 dc17 pm17 an17 cd17 ct17), sl17⟩) (c17 : PySem.W.codeIn K cd17 "_law_whole" = true) (k17 : PySem.W.keepIn K (.ref f17) = true)
    {f18 : Addr} {od18 an18 : Option Addr} {sl18 : Array (Option Value)} {oc18 kV18 dc18 pm18 cd18 ct18 : Value}
    (a18 : PySem.W.nsIn K mainGlobals "_law_alike" = some (some (.ref f18))) (l18 : K.lookup f18 = some ⟨oc18, od18, .func (PySem.W.fnOf "_law_alike" "_law_alike" (defArgs s_alike) (defBody s_alike) (defScope s_alike) .none kV18 dc18 pm18 an18 cd18 ct18), sl18⟩) (c18 : PySem.W.codeIn K cd18 "_law_alike" = true) (k18 : PySem.W.keepIn K (.ref f18) = true)
    {f19 : Addr} {od19 an19 : Option Addr} {sl19 : Array (Option Value)} {oc19 kV19 dc19 pm19 cd19 ct19 : Value}
    (a19 : PySem.W.nsIn K mainGlobals "_law_matter" = some (some (.ref f19))) (l19 : K.lookup f19 = some ⟨oc19, od19, .func (PySem.W.fnOf "_law_matter" "_law_matter" (defArgs s_matter) (defBody s_matter) (defScope s_matter) .none kV19 dc19 pm19 an19 cd19 ct19), sl19⟩) (c19 : PySem.W.codeIn K cd19 "_law_matter" = true) (k19 : PySem.W.keepIn K (.ref f19) = true)
    {f20 : Addr} {od20 an20 : Option Addr} {sl20 : Array (Option Value)} {oc20 kV20 dc20 pm20 cd20 ct20 : Value}
    (a20 : PySem.W.nsIn K mainGlobals "_law_shuffled" = some (some (.ref f20))) (l20 : K.lookup f20 = some ⟨oc20, od20, .func (PySem.W.fnOf "_law_shuffled" "_law_shuffled" (defArgs s_shuffled) (defBody s_shuffled) (defScope s_shuffled) .none kV20 dc20 pm20 an20 cd20 ct20), sl20⟩) (c20 : PySem.W.codeIn K cd20 "_law_shuffled" = true) (k20 : PySem.W.keepIn K (.ref f20) = true)
    {f21 : Addr} {od21 an21 : Option Addr} {sl21 : Array (Option Value)} {oc21 kV21 dc21 pm21 cd21 ct21 : Value}
    (a21 : PySem.W.nsIn K mainGlobals "_law_muddled" = some (some (.ref f21))) (l21 : K.lookup f21 = some ⟨oc21, od21, .func (PySem.W.fnOf "_law_muddled" "_law_muddled" (defArgs s_muddled) (defBody s_muddled) (defScope s_muddled) .none kV21 dc21 pm21 an21 cd21 ct21), sl21⟩) (c21 : PySem.W.codeIn K cd21 "_law_muddled" = true) (k21 : PySem.W.keepIn K (.ref f21) = true)
    {f22 : Addr} {od22 an22 : Option Addr} {sl22 : Array (Option Value)} {oc22 kV22 dc22 pm22 cd22 ct22 : Value}
    (a22 : PySem.W.nsIn K mainGlobals "_law_hand" = some (some (.ref f22))) (l22 : K.lookup f22 = some ⟨oc22, od22, .func (PySem.W.fnOf "_law_hand" "_law_hand" (defArgs s_hand) (defBody s_hand) (defScope s_hand) .none kV22 dc22 pm22 an22 cd22 ct22), sl22⟩) (c22 : PySem.W.codeIn K cd22 "_law_hand" = true) (k22 : PySem.W.keepIn K (.ref f22) = true)
    {f23 : Addr} {od23 an23 : Option Addr} {sl23 : Array (Option Value)} {oc23 kV23 dc23 pm23 cd23 ct23 : Value}
    (a23 : PySem.W.nsIn K mainGlobals "_law_switch_names" = some (some (.ref f23))) (l23 : K.lookup f23 = some ⟨oc23, od23, .func (PySem.W.fnOf "_law_switch_names" "_law_switch_names" (defArgs s_switch_names) (defBody s_switch_names) (defScope s_switch_names) .none kV23 dc23 pm23 an23 cd23 ct23), sl23⟩) (c23 : PySem.W.codeIn K cd23 "_law_switch_names" = true) (k23 : PySem.W.keepIn K (.ref f23) = true)
    {f24 : Addr} {od24 an24 : Option Addr} {sl24 : Array (Option Value)} {oc24 kV24 dc24 pm24 cd24 ct24 : Value}
    (a24 : PySem.W.nsIn K mainGlobals "_law_settings" = some (some (.ref f24))) (l24 : K.lookup f24 = some ⟨oc24, od24, .func (PySem.W.fnOf "_law_settings" "_law_settings" (defArgs s_settings) (defBody s_settings) (defScope s_settings) .none kV24 dc24 pm24 an24 cd24 ct24), sl24⟩) (c24 : PySem.W.codeIn K cd24 "_law_settings" = true) (k24 : PySem.W.keepIn K (.ref f24) = true)
    {f25 : Addr} {od25 an25 : Option Addr} {sl25 : Array (Option Value)} {oc25 kV25 dc25 pm25 cd25 ct25 : Value}
    (a25 : PySem.W.nsIn K mainGlobals "_law_stepped" = some (some (.ref f25))) (l25 : K.lookup f25 = some ⟨oc25, od25, .func (PySem.W.fnOf "_law_stepped" "_law_stepped" (defArgs s_stepped) (defBody s_stepped) (defScope s_stepped) .none kV25 dc25 pm25 an25 cd25 ct25), sl25⟩) (c25 : PySem.W.codeIn K cd25 "_law_stepped" = true) (k25 : PySem.W.keepIn K (.ref f25) = true)
    {f26 : Addr} {od26 an26 : Option Addr} {sl26 : Array (Option Value)} {oc26 kV26 dc26 pm26 cd26 ct26 : Value}
    (a26 : PySem.W.nsIn K mainGlobals "_law_asked_k00" = some (some (.ref f26))) (l26 : K.lookup f26 = some ⟨oc26, od26, .func (PySem.W.fnOf "_law_asked_k00" "_law_asked_k00" (defArgs s_asked_k00) (defBody s_asked_k00) (defScope s_asked_k00) .none kV26 dc26 pm26 an26 cd26 ct26), sl26⟩) (c26 : PySem.W.codeIn K cd26 "_law_asked_k00" = true) (k26 : PySem.W.keepIn K (.ref f26) = true)
    {f27 : Addr} {od27 an27 : Option Addr} {sl27 : Array (Option Value)} {oc27 kV27 dc27 pm27 cd27 ct27 : Value}
    (a27 : PySem.W.nsIn K mainGlobals "law" = some (some (.ref f27))) (l27 : K.lookup f27 = some ⟨oc27, od27, .func (PySem.W.fnOf "law" "law" (defArgs s_law) (defBody s_law) (defScope s_law) .none kV27 dc27 pm27 an27 cd27 ct27), sl27⟩) (c27 : PySem.W.codeIn K cd27 "law" = true) (k27 : PySem.W.keepIn K (.ref f27) = true)
    (z_abs : PySem.W.nsIn K mainGlobals "abs" = some none)
    (z_bool : PySem.W.nsIn K mainGlobals "bool" = some none)
    (z_int : PySem.W.nsIn K mainGlobals "int" = some none)
    (z_isinstance : PySem.W.nsIn K mainGlobals "isinstance" = some none)
    (z_len : PySem.W.nsIn K mainGlobals "len" = some none)
    (z_list : PySem.W.nsIn K mainGlobals "list" = some none)
    (z_max : PySem.W.nsIn K mainGlobals "max" = some none)
    (z_min : PySem.W.nsIn K mainGlobals "min" = some none)
    (z_range : PySem.W.nsIn K mainGlobals "range" = some none)
    (z_reversed : PySem.W.nsIn K mainGlobals "reversed" = some none)
    (z_sorted : PySem.W.nsIn K mainGlobals "sorted" = some none)
    (z_str : PySem.W.nsIn K mainGlobals "str" = some none)
    (z_tuple : PySem.W.nsIn K mainGlobals "tuple" = some none)
    : ∃ T : Tp K mg, T.a_law = fa ∧ ∀ (s : Shared) (v : Value), BindsTo s T.d_law ⟨[v], []⟩ [("_law_script", v)] := by
  have e := hfa.symm.trans (PySem.W.mg_of X G a27)
  cases e
  have F0 := fun_mk (st := s_switch_condition) l0 c0 k0
  have b0 := F0.binds (ps := ["switch"]) fun _ _ _ _ _ _ us hl => match us, hl with | [_], _ => rfl
  have F1 := fun_mk (st := s_formed) l1 c1 k1
  have b1 := F1.binds (ps := ["switch", "on", "off"]) fun _ _ _ _ _ _ us hl => match us, hl with | [_, _, _], _ => rfl
  have F2 := fun_mk (st := s_side_of) l2 c2 k2
  have b2 := F2.binds (ps := ["condition", "switch", "on"]) fun _ _ _ _ _ _ us hl => match us, hl with | [_, _, _], _ => rfl
  have F3 := fun_mk (st := s_no) l3 c3 k3
  have b3 := F3.binds (ps := ["condition"]) fun _ _ _ _ _ _ us hl => match us, hl with | [_], _ => rfl
  have F4 := fun_mk (st := s_both) l4 c4 k4
  have b4 := F4.binds (ps := ["condition", "other"]) fun _ _ _ _ _ _ us hl => match us, hl with | [_, _], _ => rfl
  have F5 := fun_mk (st := s_either) l5 c5 k5
  have b5 := F5.binds (ps := ["condition", "other"]) fun _ _ _ _ _ _ us hl => match us, hl with | [_, _], _ => rfl
  have F6 := fun_mk (st := s_but_not) l6 c6 k6
  have b6 := F6.binds (ps := ["condition", "other"]) fun _ _ _ _ _ _ us hl => match us, hl with | [_, _], _ => rfl
  have F7 := fun_mk (st := s_switched) l7 c7 k7
  have b7 := F7.binds (ps := ["switch", "on", "off"]) fun _ _ _ _ _ _ us hl => match us, hl with | [_, _, _], _ => rfl
  have F8 := fun_mk (st := s_fixed) l8 c8 k8
  have b8 := F8.binds (ps := ["condition", "switch", "on"]) fun _ _ _ _ _ _ us hl => match us, hl with | [_, _, _], _ => rfl
  have F9 := fun_mk (st := s_holds) l9 c9 k9
  have b9 := F9.binds (ps := ["condition", "setting"]) fun _ _ _ _ _ _ us hl => match us, hl with | [_, _], _ => rfl
  have F10 := fun_mk (st := s_implies) l10 c10 k10
  have b10 := F10.binds (ps := ["condition", "other"]) fun _ _ _ _ _ _ us hl => match us, hl with | [_, _], _ => rfl
  have F11 := fun_mk (st := s_switches_of) l11 c11 k11
  have b11 := F11.binds (ps := ["condition"]) fun _ _ _ _ _ _ us hl => match us, hl with | [_], _ => rfl
  have F12 := fun_mk (st := s_stirred) l12 c12 k12
  have b12 := F12.binds (ps := ["_law_number", "_law_turn"]) fun _ _ _ _ _ _ us hl => match us, hl with | [_, _], _ => rfl
  have F13 := fun_mk (st := s_take) l13 c13 k13
  have b13 := F13.binds (ps := ["_law_hand_here", "_law_many"]) fun _ _ _ _ _ _ us hl => match us, hl with | [_, _], _ => rfl
  have F14 := fun_mk (st := s_turned) l14 c14 k14
  have b14 := F14.binds (ps := ["_law_k", "_law_many", "_law_at", "_law_on"]) fun _ _ _ _ _ _ us hl => match us, hl with | [_, _, _, _], _ => rfl
  have F15 := fun_mk (st := s_bits) l15 c15 k15
  have b15 := F15.binds (ps := ["_law_hand_here", "_law_many"]) fun _ _ _ _ _ _ us hl => match us, hl with | [_, _], _ => rfl
  have F16 := fun_mk (st := s_form) l16 c16 k16
  have b16 := F16.binds (ps := ["_law_names", "_law_bits_here"]) fun _ _ _ _ _ _ us hl => match us, hl with | [_, _], _ => rfl
  have F17 := fun_mk (st := s_whole) l17 c17 k17
  have b17 := F17.binds (ps := ["_law_thing"]) fun _ _ _ _ _ _ us hl => match us, hl with | [_], _ => rfl
  have F18 := fun_mk (st := s_alike) l18 c18 k18
  have b18 := F18.binds (ps := ["_law_told", "_law_due"]) fun _ _ _ _ _ _ us hl => match us, hl with | [_, _], _ => rfl
  have F19 := fun_mk (st := s_matter) l19 c19 k19
  have b19 := F19.binds (ps := ["_law_names", "_law_row"]) fun _ _ _ _ _ _ us hl => match us, hl with | [_, _], _ => rfl
  have F20 := fun_mk (st := s_shuffled) l20 c20 k20
  have b20 := F20.binds (ps := ["_law_hand_here", "_law_things"]) fun _ _ _ _ _ _ us hl => match us, hl with | [_, _], _ => rfl
  have F21 := fun_mk (st := s_muddled) l21 c21 k21
  have b21 := F21.binds (ps := ["_law_hand_here", "_law_setting"]) fun _ _ _ _ _ _ us hl => match us, hl with | [_, _], _ => rfl
  have F22 := fun_mk (st := s_hand) l22 c22 k22
  have b22 := F22.binds (ps := ["_law_script"]) fun _ _ _ _ _ _ us hl => match us, hl with | [_], _ => rfl
  have F23 := fun_mk (st := s_switch_names) l23 c23 k23
  have b23 := F23.binds (ps := ["_law_hand_here", "_law_many"]) fun _ _ _ _ _ _ us hl => match us, hl with | [_, _], _ => rfl
  have F24 := fun_mk (st := s_settings) l24 c24 k24
  have b24 := F24.binds (ps := ["_law_names"]) fun _ _ _ _ _ _ us hl => match us, hl with | [_], _ => rfl
  have F25 := fun_mk (st := s_stepped) l25 c25 k25
  have b25 := F25.binds (ps := ["_law_hand_here", "_law_names", "_law_pool", "_law_rows"]) fun _ _ _ _ _ _ us hl => match us, hl with | [_, _, _, _], _ => rfl
  have F26 := fun_mk (st := s_asked_k00) l26 c26 k26
  have b26 := F26.binds (ps := ["_law_hand_here", "_law_names", "_law_settings_here", "_law_condition", "_law_row"]) fun _ _ _ _ _ _ us hl => match us, hl with | [_, _, _, _, _], _ => rfl
  have F27 := fun_mk (st := s_law) l27 c27 k27
  have b27 := F27.binds (ps := ["_law_script"]) fun _ _ _ _ _ _ us hl => match us, hl with | [_], _ => rfl
  exact ⟨⟨_, _, F0, PySem.W.mg_of X G a0, b0,
    _, _, F1, PySem.W.mg_of X G a1, b1,
    _, _, F2, PySem.W.mg_of X G a2, b2,
    _, _, F3, PySem.W.mg_of X G a3, b3,
    _, _, F4, PySem.W.mg_of X G a4, b4,
    _, _, F5, PySem.W.mg_of X G a5, b5,
    _, _, F6, PySem.W.mg_of X G a6, b6,
    _, _, F7, PySem.W.mg_of X G a7, b7,
    _, _, F8, PySem.W.mg_of X G a8, b8,
    _, _, F9, PySem.W.mg_of X G a9, b9,
    _, _, F10, PySem.W.mg_of X G a10, b10,
    _, _, F11, PySem.W.mg_of X G a11, b11,
    _, _, F12, PySem.W.mg_of X G a12, b12,
    _, _, F13, PySem.W.mg_of X G a13, b13,
    _, _, F14, PySem.W.mg_of X G a14, b14,
    _, _, F15, PySem.W.mg_of X G a15, b15,
    _, _, F16, PySem.W.mg_of X G a16, b16,
    _, _, F17, PySem.W.mg_of X G a17, b17,
    _, _, F18, PySem.W.mg_of X G a18, b18,
    _, _, F19, PySem.W.mg_of X G a19, b19,
    _, _, F20, PySem.W.mg_of X G a20, b20,
    _, _, F21, PySem.W.mg_of X G a21, b21,
    _, _, F22, PySem.W.mg_of X G a22, b22,
    _, _, F23, PySem.W.mg_of X G a23, b23,
    _, _, F24, PySem.W.mg_of X G a24, b24,
    _, _, F25, PySem.W.mg_of X G a25, b25,
    _, _, F26, PySem.W.mg_of X G a26, b26,
    _, _, F27, PySem.W.mg_of X G a27, b27,
    PySem.W.mg_none_of X G z_abs,
    PySem.W.mg_none_of X G z_bool,
    PySem.W.mg_none_of X G z_int,
    PySem.W.mg_none_of X G z_isinstance,
    PySem.W.mg_none_of X G z_len,
    PySem.W.mg_none_of X G z_list,
    PySem.W.mg_none_of X G z_max,
    PySem.W.mg_none_of X G z_min,
    PySem.W.mg_none_of X G z_range,
    PySem.W.mg_none_of X G z_reversed,
    PySem.W.mg_none_of X G z_sorted,
    PySem.W.mg_none_of X G z_str,
    PySem.W.mg_none_of X G z_tuple⟩, rfl, fun s v => .of_eq rfl⟩
theorem all_mk {P : Program} {w : World} {K : PySem.W.Frag} {h : Heap} {mg : Str → Option Value} {fa : Addr} (X : K.In h) (G : h.Ns mainGlobals mg) (hfa : mg "law" = some (.ref fa))
    {f0 : Addr} {od0 an0 : Option Addr} {sl0 : Array (Option Value)} {oc0 kV0 dc0 pm0 cd0 ct0 : Value}
    (a0 : PySem.W.nsIn K mainGlobals "switch_condition" = some (some (.ref f0))) (l0 : K.lookup f0 = some ⟨oc0, od0, .func (PySem.W.fnOf "switch_condition" "switch_condition" (defArgs s_switch_condition) (defBody s_switch_condition) (defScope s_switch_condition) .none kV0 dc0 pm0 an0 cd0 ct0), sl0⟩) (c0 : PySem.W.codeIn K cd0 "switch_condition" = true) (k0 : PySem.W.keepIn K (.ref f0) = true)
    {f1 : Addr} {od1 an1 : Option Addr} {sl1 : Array (Option Value)} {oc1 kV1 dc1 pm1 cd1 ct1 : Value}
    (a1 : PySem.W.nsIn K mainGlobals "formed" = some (some (.ref f1))) (l1 : K.lookup f1 = some ⟨oc1, od1, .func (PySem.W.fnOf "formed" "formed" (defArgs s_formed) (defBody s_formed) (defScope s_formed) .none kV1 dc1 pm1 an1 cd1 ct1), sl1⟩) (c1 : PySem.W.codeIn K cd1 "formed" = true) (k1 : PySem.W.keepIn K (.ref f1) = true)
    {f2 : Addr} {od2 an2 : Option Addr} {sl2 : Array (Option Value)} {oc2 kV2 dc2 pm2 cd2 ct2 : Value}
    (a2 : PySem.W.nsIn K mainGlobals "side_of" = some (some (.ref f2))) (l2 : K.lookup f2 = some ⟨oc2, od2, .func (PySem.W.fnOf "side_of" "side_of" (defArgs s_side_of) (defBody s_side_of) (defScope s_side_of) .none kV2 dc2 pm2 an2 cd2 ct2), sl2⟩) (c2 : PySem.W.codeIn K cd2 "side_of" = true) (k2 : PySem.W.keepIn K (.ref f2) = true)
    {f3 : Addr} {od3 an3 : Option Addr} {sl3 : Array (Option Value)} {oc3 kV3 dc3 pm3 cd3 ct3 : Value}
    (a3 : PySem.W.nsIn K mainGlobals "no" = some (some (.ref f3))) (l3 : K.lookup f3 = some ⟨oc3, od3, .func (PySem.W.fnOf "no" "no" (defArgs s_no) (defBody s_no) (defScope s_no) .none kV3 dc3 pm3 an3 cd3 ct3), sl3⟩) (c3 : PySem.W.codeIn K cd3 "no" = true) (k3 : PySem.W.keepIn K (.ref f3) = true)
    {f4 : Addr} {od4 an4 : Option Addr} {sl4 : Array (Option Value)} {oc4 kV4 dc4 pm4 cd4 ct4 : Value}
    (a4 : PySem.W.nsIn K mainGlobals "both" = some (some (.ref f4))) (l4 : K.lookup f4 = some ⟨oc4, od4, .func (PySem.W.fnOf "both" "both" (defArgs s_both) (defBody s_both) (defScope s_both) .none kV4 dc4 pm4 an4 cd4 ct4), sl4⟩) (c4 : PySem.W.codeIn K cd4 "both" = true) (k4 : PySem.W.keepIn K (.ref f4) = true)
    {f5 : Addr} {od5 an5 : Option Addr} {sl5 : Array (Option Value)} {oc5 kV5 dc5 pm5 cd5 ct5 : Value}
    (a5 : PySem.W.nsIn K mainGlobals "either" = some (some (.ref f5))) (l5 : K.lookup f5 = some ⟨oc5, od5, .func (PySem.W.fnOf "either" "either" (defArgs s_either) (defBody s_either) (defScope s_either) .none kV5 dc5 pm5 an5 cd5 ct5), sl5⟩) (c5 : PySem.W.codeIn K cd5 "either" = true) (k5 : PySem.W.keepIn K (.ref f5) = true)
    {f6 : Addr} {od6 an6 : Option Addr} {sl6 : Array (Option Value)} {oc6 kV6 dc6 pm6 cd6 ct6 : Value}
    (a6 : PySem.W.nsIn K mainGlobals "but_not" = some (some (.ref f6))) (l6 : K.lookup f6 = some ⟨oc6, od6, .func (PySem.W.fnOf "but_not" "but_not" (defArgs s_but_not) (defBody s_but_not) (defScope s_but_not) .none kV6 dc6 pm6 an6 cd6 ct6), sl6⟩) (c6 : PySem.W.codeIn K cd6 "but_not" = true) (k6 : PySem.W.keepIn K (.ref f6) = true)
    {f7 : Addr} {od7 an7 : Option Addr} {sl7 : Array (Option Value)} {oc7 kV7 dc7 pm7 cd7 ct7 : Value}
    (a7 : PySem.W.nsIn K mainGlobals "switched" = some (some (.ref f7))) (l7 : K.lookup f7 = some ⟨oc7, od7, .func (PySem.W.fnOf "switched" "switched" (defArgs s_switched) (defBody s_switched) (defScope s_switched) .none kV7 dc7 pm7 an7 cd7 ct7), sl7⟩) (c7 : PySem.W.codeIn K cd7 "switched" = true) (k7 : PySem.W.keepIn K (.ref f7) = true)
    {f8 : Addr} {od8 an8 : Option Addr} {sl8 : Array (Option Value)} {oc8 kV8 dc8 pm8 cd8 ct8 : Value}
    (a8 : PySem.W.nsIn K mainGlobals "fixed" = some (some (.ref f8))) (l8 : K.lookup f8 = some ⟨oc8, od8, .func (PySem.W.fnOf "fixed" "fixed" (defArgs s_fixed) (defBody s_fixed) (defScope s_fixed) .none kV8 dc8 pm8 an8 cd8 ct8), sl8⟩) (c8 : PySem.W.codeIn K cd8 "fixed" = true) (k8 : PySem.W.keepIn K (.ref f8) = true)
    {f9 : Addr} {od9 an9 : Option Addr} {sl9 : Array (Option Value)} {oc9 kV9 dc9 pm9 cd9 ct9 : Value}
    (a9 : PySem.W.nsIn K mainGlobals "holds" = some (some (.ref f9))) (l9 : K.lookup f9 = some ⟨oc9, od9, .func (PySem.W.fnOf "holds" "holds" (defArgs s_holds) (defBody s_holds) (defScope s_holds) .none kV9 dc9 pm9 an9 cd9 ct9), sl9⟩) (c9 : PySem.W.codeIn K cd9 "holds" = true) (k9 : PySem.W.keepIn K (.ref f9) = true)
    {f10 : Addr} {od10 an10 : Option Addr} {sl10 : Array (Option Value)} {oc10 kV10 dc10 pm10 cd10 ct10 : Value}
    (a10 : PySem.W.nsIn K mainGlobals "implies" = some (some (.ref f10))) (l10 : K.lookup f10 = some ⟨oc10, od10, .func (PySem.W.fnOf "implies" "implies" (defArgs s_implies) (defBody s_implies) (defScope s_implies) .none kV10 dc10 pm10 an10 cd10 ct10), sl10⟩) (c10 : PySem.W.codeIn K cd10 "implies" = true) (k10 : PySem.W.keepIn K (.ref f10) = true)
    {f11 : Addr} {od11 an11 : Option Addr} {sl11 : Array (Option Value)} {oc11 kV11 dc11 pm11 cd11 ct11 : Value}
    (a11 : PySem.W.nsIn K mainGlobals "switches_of" = some (some (.ref f11))) (l11 : K.lookup f11 = some ⟨oc11, od11, .func (PySem.W.fnOf "switches_of" "switches_of" (defArgs s_switches_of) (defBody s_switches_of) (defScope s_switches_of) .none kV11 dc11 pm11 an11 cd11 ct11), sl11⟩) (c11 : PySem.W.codeIn K cd11 "switches_of" = true) (k11 : PySem.W.keepIn K (.ref f11) = true)
    {f12 : Addr} {od12 an12 : Option Addr} {sl12 : Array (Option Value)} {oc12 kV12 dc12 pm12 cd12 ct12 : Value}
    (a12 : PySem.W.nsIn K mainGlobals "_law_stirred" = some (some (.ref f12))) (l12 : K.lookup f12 = some ⟨oc12, od12, .func (PySem.W.fnOf "_law_stirred" "_law_stirred" (defArgs s_stirred) (defBody s_stirred) (defScope s_stirred) .none kV12 dc12 pm12 an12 cd12 ct12), sl12⟩) (c12 : PySem.W.codeIn K cd12 "_law_stirred" = true) (k12 : PySem.W.keepIn K (.ref f12) = true)
    {f13 : Addr} {od13 an13 : Option Addr} {sl13 : Array (Option Value)} {oc13 kV13 dc13 pm13 cd13 ct13 : Value}
    (a13 : PySem.W.nsIn K mainGlobals "_law_take" = some (some (.ref f13))) (l13 : K.lookup f13 = some ⟨oc13, od13, .func (PySem.W.fnOf "_law_take" "_law_take" (defArgs s_take) (defBody s_take) (defScope s_take) .none kV13 dc13 pm13 an13 cd13 ct13), sl13⟩) (c13 : PySem.W.codeIn K cd13 "_law_take" = true) (k13 : PySem.W.keepIn K (.ref f13) = true)
    {f14 : Addr} {od14 an14 : Option Addr} {sl14 : Array (Option Value)} {oc14 kV14 dc14 pm14 cd14 ct14 : Value}
    (a14 : PySem.W.nsIn K mainGlobals "_law_turned" = some (some (.ref f14))) (l14 : K.lookup f14 = some ⟨oc14, od14, .func (PySem.W.fnOf "_law_turned" "_law_turned" (defArgs s_turned) (defBody s_turned) (defScope s_turned) .none kV14 dc14 pm14 an14 cd14 ct14), sl14⟩) (c14 : PySem.W.codeIn K cd14 "_law_turned" = true) (k14 : PySem.W.keepIn K (.ref f14) = true)
    {f15 : Addr} {od15 an15 : Option Addr} {sl15 : Array (Option Value)} {oc15 kV15 dc15 pm15 cd15 ct15 : Value}
    (a15 : PySem.W.nsIn K mainGlobals "_law_bits" = some (some (.ref f15))) (l15 : K.lookup f15 = some ⟨oc15, od15, .func (PySem.W.fnOf "_law_bits" "_law_bits" (defArgs s_bits) (defBody s_bits) (defScope s_bits) .none kV15 dc15 pm15 an15 cd15 ct15), sl15⟩) (c15 : PySem.W.codeIn K cd15 "_law_bits" = true) (k15 : PySem.W.keepIn K (.ref f15) = true)
    {f16 : Addr} {od16 an16 : Option Addr} {sl16 : Array (Option Value)} {oc16 kV16 dc16 pm16 cd16 ct16 : Value}
    (a16 : PySem.W.nsIn K mainGlobals "_law_form" = some (some (.ref f16))) (l16 : K.lookup f16 = some ⟨oc16, od16, .func (PySem.W.fnOf "_law_form" "_law_form" (defArgs s_form) (defBody s_form) (defScope s_form) .none kV16 dc16 pm16 an16 cd16 ct16), sl16⟩) (c16 : PySem.W.codeIn K cd16 "_law_form" = true) (k16 : PySem.W.keepIn K (.ref f16) = true)
    {f17 : Addr} {od17 an17 : Option Addr} {sl17 : Array (Option Value)} {oc17 kV17 dc17 pm17 cd17 ct17 : Value}
    (a17 : PySem.W.nsIn K mainGlobals "_law_whole" = some (some (.ref f17))) (l17 : K.lookup f17 = some ⟨oc17, od17, .func (PySem.W.fnOf "_law_whole" "_law_whole" (defArgs s_whole) (defBody s_whole) (defScope s_whole) .none kV17 dc17 pm17 an17 cd17 ct17), sl17⟩) (c17 : PySem.W.codeIn K cd17 "_law_whole" = true) (k17 : PySem.W.keepIn K (.ref f17) = true)
    {f18 : Addr} {od18 an18 : Option Addr} {sl18 : Array (Option Value)} {oc18 kV18 dc18 pm18 cd18 ct18 : Value}
    (a18 : PySem.W.nsIn K mainGlobals "_law_alike" = some (some (.ref f18))) (l18 : K.lookup f18 = some ⟨oc18, od18, .func (PySem.W.fnOf "_law_alike" "_law_alike" (defArgs s_alike) (defBody s_alike) (defScope s_alike) .none kV18 dc18 pm18 an18 cd18 ct18), sl18⟩) (c18 : PySem.W.codeIn K cd18 "_law_alike" = true) (k18 : PySem.W.keepIn K (.ref f18) = true)
    {f19 : Addr} {od19 an19 : Option Addr} {sl19 : Array (Option Value)} {oc19 kV19 dc19 pm19 cd19 ct19 : Value}
    (a19 : PySem.W.nsIn K mainGlobals "_law_matter" = some (some (.ref f19))) (l19 : K.lookup f19 = some ⟨oc19, od19, .func (PySem.W.fnOf "_law_matter" "_law_matter" (defArgs s_matter) (defBody s_matter) (defScope s_matter) .none kV19 dc19 pm19 an19 cd19 ct19), sl19⟩) (c19 : PySem.W.codeIn K cd19 "_law_matter" = true) (k19 : PySem.W.keepIn K (.ref f19) = true)
    {f20 : Addr} {od20 an20 : Option Addr} {sl20 : Array (Option Value)} {oc20 kV20 dc20 pm20 cd20 ct20 : Value}
    (a20 : PySem.W.nsIn K mainGlobals "_law_shuffled" = some (some (.ref f20))) (l20 : K.lookup f20 = some ⟨oc20, od20, .func (PySem.W.fnOf "_law_shuffled" "_law_shuffled" (defArgs s_shuffled) (defBody s_shuffled) (defScope s_shuffled) .none kV20 dc20 pm20 an20 cd20 ct20), sl20⟩) (c20 : PySem.W.codeIn K cd20 "_law_shuffled" = true) (k20 : PySem.W.keepIn K (.ref f20) = true)
    {f21 : Addr} {od21 an21 : Option Addr} {sl21 : Array (Option Value)} {oc21 kV21 dc21 pm21 cd21 ct21 : Value}
    (a21 : PySem.W.nsIn K mainGlobals "_law_muddled" = some (some (.ref f21))) (l21 : K.lookup f21 = some ⟨oc21, od21, .func (PySem.W.fnOf "_law_muddled" "_law_muddled" (defArgs s_muddled) (defBody s_muddled) (defScope s_muddled) .none kV21 dc21 pm21 an21 cd21 ct21), sl21⟩) (c21 : PySem.W.codeIn K cd21 "_law_muddled" = true) (k21 : PySem.W.keepIn K (.ref f21) = true)
    {f22 : Addr} {od22 an22 : Option Addr} {sl22 : Array (Option Value)} {oc22 kV22 dc22 pm22 cd22 ct22 : Value}
    (a22 : PySem.W.nsIn K mainGlobals "_law_hand" = some (some (.ref f22))) (l22 : K.lookup f22 = some ⟨oc22, od22, .func (PySem.W.fnOf "_law_hand" "_law_hand" (defArgs s_hand) (defBody s_hand) (defScope s_hand) .none kV22 dc22 pm22 an22 cd22 ct22), sl22⟩) (c22 : PySem.W.codeIn K cd22 "_law_hand" = true) (k22 : PySem.W.keepIn K (.ref f22) = true)
    {f23 : Addr} {od23 an23 : Option Addr} {sl23 : Array (Option Value)} {oc23 kV23 dc23 pm23 cd23 ct23 : Value}
    (a23 : PySem.W.nsIn K mainGlobals "_law_switch_names" = some (some (.ref f23))) (l23 : K.lookup f23 = some ⟨oc23, od23, .func (PySem.W.fnOf "_law_switch_names" "_law_switch_names" (defArgs s_switch_names) (defBody s_switch_names) (defScope s_switch_names) .none kV23 dc23 pm23 an23 cd23 ct23), sl23⟩) (c23 : PySem.W.codeIn K cd23 "_law_switch_names" = true) (k23 : PySem.W.keepIn K (.ref f23) = true)
    {f24 : Addr} {od24 an24 : Option Addr} {sl24 : Array (Option Value)} {oc24 kV24 dc24 pm24 cd24 ct24 : Value}
    (a24 : PySem.W.nsIn K mainGlobals "_law_settings" = some (some (.ref f24))) (l24 : K.lookup f24 = some ⟨oc24, od24, .func (PySem.W.fnOf "_law_settings" "_law_settings" (defArgs s_settings) (defBody s_settings) (defScope s_settings) .none kV24 dc24 pm24 an24 cd24 ct24), sl24⟩) (c24 : PySem.W.codeIn K cd24 "_law_settings" = true) (k24 : PySem.W.keepIn K (.ref f24) = true)
    {f25 : Addr} {od25 an25 : Option Addr} {sl25 : Array (Option Value)} {oc25 kV25 dc25 pm25 cd25 ct25 : Value}
    (a25 : PySem.W.nsIn K mainGlobals "_law_stepped" = some (some (.ref f25))) (l25 : K.lookup f25 = some ⟨oc25, od25, .func (PySem.W.fnOf "_law_stepped" "_law_stepped" (defArgs s_stepped) (defBody s_stepped) (defScope s_stepped) .none kV25 dc25 pm25 an25 cd25 ct25), sl25⟩) (c25 : PySem.W.codeIn K cd25 "_law_stepped" = true) (k25 : PySem.W.keepIn K (.ref f25) = true)
    {f26 : Addr} {od26 an26 : Option Addr} {sl26 : Array (Option Value)} {oc26 kV26 dc26 pm26 cd26 ct26 : Value}
    (a26 : PySem.W.nsIn K mainGlobals "_law_asked_k00" = some (some (.ref f26))) (l26 : K.lookup f26 = some ⟨oc26, od26, .func (PySem.W.fnOf "_law_asked_k00" "_law_asked_k00" (defArgs s_asked_k00) (defBody s_asked_k00) (defScope s_asked_k00) .none kV26 dc26 pm26 an26 cd26 ct26), sl26⟩) (c26 : PySem.W.codeIn K cd26 "_law_asked_k00" = true) (k26 : PySem.W.keepIn K (.ref f26) = true)
    {f27 : Addr} {od27 an27 : Option Addr} {sl27 : Array (Option Value)} {oc27 kV27 dc27 pm27 cd27 ct27 : Value}
    (a27 : PySem.W.nsIn K mainGlobals "law" = some (some (.ref f27))) (l27 : K.lookup f27 = some ⟨oc27, od27, .func (PySem.W.fnOf "law" "law" (defArgs s_law) (defBody s_law) (defScope s_law) .none kV27 dc27 pm27 an27 cd27 ct27), sl27⟩) (c27 : PySem.W.codeIn K cd27 "law" = true) (k27 : PySem.W.keepIn K (.ref f27) = true)
    (z_abs : PySem.W.nsIn K mainGlobals "abs" = some none)
    (z_bool : PySem.W.nsIn K mainGlobals "bool" = some none)
    (z_int : PySem.W.nsIn K mainGlobals "int" = some none)
    (z_isinstance : PySem.W.nsIn K mainGlobals "isinstance" = some none)
    (z_len : PySem.W.nsIn K mainGlobals "len" = some none)
    (z_list : PySem.W.nsIn K mainGlobals "list" = some none)
    (z_max : PySem.W.nsIn K mainGlobals "max" = some none)
    (z_min : PySem.W.nsIn K mainGlobals "min" = some none)
    (z_range : PySem.W.nsIn K mainGlobals "range" = some none)
    (z_reversed : PySem.W.nsIn K mainGlobals "reversed" = some none)
    (z_sorted : PySem.W.nsIn K mainGlobals "sorted" = some none)
    (z_str : PySem.W.nsIn K mainGlobals "str" = some none)
    (z_tuple : PySem.W.nsIn K mainGlobals "tuple" = some none)
    : ∃ fd : FuncData, (∀ (s : Shared) (v : Value), BindsTo s fd ⟨[v], []⟩ [("_law_script", v)]) ∧ ∀ base : Heap, K.In base → base.Ns mainGlobals mg → FnOk P w K mg base CX0 40 fa fd ["_law_script"] (spLaw K) := by
  obtain ⟨T, e, hb⟩ := tp_mk X G hfa a0 l0 c0 k0 a1 l1 c1 k1 a2 l2 c2 k2 a3 l3 c3 k3 a4 l4 c4 k4 a5 l5 c5 k5 a6 l6 c6 k6 a7 l7 c7 k7 a8 l8 c8 k8 a9 l9 c9 k9 a10 l10 c10 k10 a11 l11 c11 k11 a12 l12 c12 k12 a13 l13 c13 k13 a14 l14 c14 k14 a15 l15 c15 k15 a16 l16 c16 k16 a17 l17 c17 k17 a18 l18 c18 k18 a19 l19 c19 k19 a20 l20 c20 k20 a21 l21 c21 k21 a22 l22 c22 k22 a23 l23 c23 k23 a24 l24 c24 k24 a25 l25 c25 k25 a26 l26 c26 k26 a27 l27 c27 k27 z_abs z_bool z_int z_isinstance z_len z_list z_max z_min z_range z_reversed z_sorted z_str z_tuple
  subst e
  exact ⟨T.d_law, hb, fun base _ _ => ok_law T⟩
end
end EA
open PySem PySem.W PyProof.Rows
set_option maxRecDepth 100000 in
set_option maxHeartbeats 0 in
theorem PySem.Challenge.cw_eacharm_k00_conditions_after_any_run_holds : PySem.Challenge.rw_eacharm_k00_conditions_after_any_run.Holds := by
  w_on; o_law; k_head; (case hw => w_witness2)
  k_fill
  refine L2.walk_of (l := PySem.Challenge.rw_eacharm_k00_conditions_after_any_run) (n := 63) (k := 40) (x := "_law_script") (CX := fun _ => L2.CX0) (sp := fun w => EA.spLaw _) rfl (by decide) rfl ⟨rfl, by decide, by decide⟩ (fun w h Y => PySem.W.kIn_of Y) ?F (fun _ _ a ns hl _ hS => ⟨a, ns, rfl, hS, hl, fun _ => rfl⟩) (fun _ _ _ _ _ h => h)
  case F =>
    intro w mg fa h KX G hmg
    refine' EA.all_mk KX G hmg ?a0 ?l0 ?c0 ?k0 ?a1 ?l1 ?c1 ?k1 ?a2 ?l2 ?c2 ?k2 ?a3 ?l3 ?c3 ?k3 ?a4 ?l4 ?c4 ?k4 ?a5 ?l5 ?c5 ?k5 ?a6 ?l6 ?c6 ?k6 ?a7 ?l7 ?c7 ?k7 ?a8 ?l8 ?c8 ?k8 ?a9 ?l9 ?c9 ?k9 ?a10 ?l10 ?c10 ?k10 ?a11 ?l11 ?c11 ?k11 ?a12 ?l12 ?c12 ?k12 ?a13 ?l13 ?c13 ?k13 ?a14 ?l14 ?c14 ?k14 ?a15 ?l15 ?c15 ?k15 ?a16 ?l16 ?c16 ?k16 ?a17 ?l17 ?c17 ?k17 ?a18 ?l18 ?c18 ?k18 ?a19 ?l19 ?c19 ?k19 ?a20 ?l20 ?c20 ?k20 ?a21 ?l21 ?c21 ?k21 ?a22 ?l22 ?c22 ?k22 ?a23 ?l23 ?c23 ?k23 ?a24 ?l24 ?c24 ?k24 ?a25 ?l25 ?c25 ?k25 ?a26 ?l26 ?c26 ?k26 ?a27 ?l27 ?c27 ?k27 ?z_abs ?z_bool ?z_int ?z_isinstance ?z_len ?z_list ?z_max ?z_min ?z_range ?z_reversed ?z_sorted ?z_str ?z_tuple
    (case a0 => k_is)
    (case l0 => k_is)
    (case c0 => k_is)
    (case k0 => k_is)
    (case a1 => k_is)
    (case l1 => k_is)
    (case c1 => k_is)
    (case k1 => k_is)
    (case a2 => k_is)
    (case l2 => k_is)
    (case c2 => k_is)
    (case k2 => k_is)
    (case a3 => k_is)
    (case l3 => k_is)
    (case c3 => k_is)
    (case k3 => k_is)
    (case a4 => k_is)
    (case l4 => k_is)
    (case c4 => k_is)
    (case k4 => k_is)
    (case a5 => k_is)
    (case l5 => k_is)
    (case c5 => k_is)
    (case k5 => k_is)
    (case a6 => k_is)
    (case l6 => k_is)
    (case c6 => k_is)
    (case k6 => k_is)
    (case a7 => k_is)
    (case l7 => k_is)
    (case c7 => k_is)
    (case k7 => k_is)
    (case a8 => k_is)
    (case l8 => k_is)
    (case c8 => k_is)
    (case k8 => k_is)
    (case a9 => k_is)
    (case l9 => k_is)
    (case c9 => k_is)
    (case k9 => k_is)
    (case a10 => k_is)
    (case l10 => k_is)
    (case c10 => k_is)
    (case k10 => k_is)
    (case a11 => k_is)
    (case l11 => k_is)
    (case c11 => k_is)
    (case k11 => k_is)
    (case a12 => k_is)
    (case l12 => k_is)
    (case c12 => k_is)
    (case k12 => k_is)
    (case a13 => k_is)
    (case l13 => k_is)
    (case c13 => k_is)
    (case k13 => k_is)
    (case a14 => k_is)
    (case l14 => k_is)
    (case c14 => k_is)
    (case k14 => k_is)
    (case a15 => k_is)
    (case l15 => k_is)
    (case c15 => k_is)
    (case k15 => k_is)
    (case a16 => k_is)
    (case l16 => k_is)
    (case c16 => k_is)
    (case k16 => k_is)
    (case a17 => k_is)
    (case l17 => k_is)
    (case c17 => k_is)
    (case k17 => k_is)
    (case a18 => k_is)
    (case l18 => k_is)
    (case c18 => k_is)
    (case k18 => k_is)
    (case a19 => k_is)
    (case l19 => k_is)
    (case c19 => k_is)
    (case k19 => k_is)
    (case a20 => k_is)
    (case l20 => k_is)
    (case c20 => k_is)
    (case k20 => k_is)
    (case a21 => k_is)
    (case l21 => k_is)
    (case c21 => k_is)
    (case k21 => k_is)
    (case a22 => k_is)
    (case l22 => k_is)
    (case c22 => k_is)
    (case k22 => k_is)
    (case a23 => k_is)
    (case l23 => k_is)
    (case c23 => k_is)
    (case k23 => k_is)
    (case a24 => k_is)
    (case l24 => k_is)
    (case c24 => k_is)
    (case k24 => k_is)
    (case a25 => k_is)
    (case l25 => k_is)
    (case c25 => k_is)
    (case k25 => k_is)
    (case a26 => k_is)
    (case l26 => k_is)
    (case c26 => k_is)
    (case k26 => k_is)
    (case a27 => k_is)
    (case l27 => k_is)
    (case c27 => k_is)
    (case k27 => k_is)
    (case z_abs => k_is)
    (case z_bool => k_is)
    (case z_int => k_is)
    (case z_isinstance => k_is)
    (case z_len => k_is)
    (case z_list => k_is)
    (case z_max => k_is)
    (case z_min => k_is)
    (case z_range => k_is)
    (case z_reversed => k_is)
    (case z_sorted => k_is)
    (case z_str => k_is)
    (case z_tuple => k_is)
